import PyProof.Rows.All
import Wide.All
import OpenK.AllK
import Wide.FinOn
import KE.KxBytes
import KE.KItem
import KE.KMulAny
import KE.KDictOf
import PyProof.Laws
import Lean
import PySem.Challenge.RW_or0049_01
set_option Elab.async false
set_option maxRecDepth 100000
set_option maxHeartbeats 8000000
set_option linter.unusedVariables false
set_option linter.unusedSimpArgs false
section
open PySem PySem.W PyProof.Rows
namespace Mine
/-- the def at a place of the text: parameters, body, scope -/
noncomputable def defAt (i : Nat) : PySem.Arguments × List Stmt × Scope := match PySem.Challenge.pw_or0049_01.main.body[i]? with
  | some (.FunctionDef _ args body _ _ _ scope _ _ _) => (args, body, scope)
  | _ => default
/-- a def's object -/
noncomputable def fnObj (i : Nat) (nm : Str) (dv : Value) (m : Str) (t : Tok) (c : Addr) : Obj :=
  { cls := .type "function", data := .func { name := nm, qualname := nm, params := (defAt i).1, body := .stmts (defAt i).2.1, scope := (defAt i).2.2, globals := 3, closure := [], defaults := dv, kwdefaults := .none, pyModule := .str m t, code := .ref c } }
/-- a def's code -/
noncomputable def cdObj (nm : Str) (t : Tok) (ln n : Int) (a : Addr) (x y z : Value) (b : Addr) (k : Int) (u : Tok) : Obj :=
  { cls := .type "code", data := .fields #[.str nm t, .str nm (t + 1), .str "/claim/cut.py" (t + 2), .int ln 0, .int n 0, .int 0 0, .int 0 0, .int 3 0, .ref a, .bool true, .int 181 0, .ref (a + 1), x, y, z, .ref b, .int k 0, .int ln 0, .str "/claim/cut.py" u] }
noncomputable def ent (P : Params) (x : Str) (t : Tok) (v : Value) : DictEntry := { hash := PyData.keyHash P x, key := .str x t, val := v }
noncomputable def globs (P : Params) : Obj := { cls := .type "dict", data := .dict #[ent P "__name__" 165 (.str "law_or0049_01" 492), ent P "__doc__" 166 (.none), ent P "__package__" 167 (.none), ent P "__loader__" 168 (.builtin "__main__.__loader__#opaque"), ent P "__spec__" 169 (.none), ent P "__annotations__" 170 (.ref 6), ent P "__builtins__" 171 (.ref 4), ent P "__file__" 173 (.str "/claim/cut.py" 172), ent P "__cached__" 174 (.none), ent P "SIGNS" 190 (.bytes #[65, 66, 67, 68, 69, 70, 71, 72, 73, 74, 75, 76, 77, 78, 79, 80, 81, 82, 83, 84, 85, 86, 87, 88, 89, 90, 97, 98, 99, 100, 101, 102, 103, 104, 105, 106, 107, 108, 109, 110, 111, 112, 113, 114, 115, 116, 117, 118, 119, 120, 121, 122, 48, 49, 50, 51, 52, 53, 54, 55, 56, 57, 43, 47] 189), ent P "PAD" 192 (.int 61 191), ent P "LINE_END" 194 (.bytes #[13, 10] 193), ent P "worth_table" 200 (.ref 19), ent P "group_codes" 206 (.ref 24), ent P "group_octets" 212 (.ref 29), ent P "part_encoded" 222 (.ref 36), ent P "one_line" 229 (.ref 43), ent P "in_lines" 235 (.ref 48), ent P "encoded" 244 (.ref 56), ent P "decoded" 256 (.ref 63), ent P "RETURN_octets" 260 (.int 13 259), ent P "line_spans" 277 (.ref 71), ent P "PostError" 319 (.ref 96), ent P "MimeFault" 335 (.ref 109), ent P "EQUALS" 339 (.int 61 338), ent P "BLANK" 341 (.int 32 340), ent P "TAB" 343 (.int 9 342), ent P "RETURN_quoted" 345 (.int 13 344), ent P "LEAST_WIDTH" 347 (.int 4 346), ent P "HEX" 349 (.bytes #[48, 49, 50, 51, 52, 53, 54, 55, 56, 57, 65, 66, 67, 68, 69, 70] 348), ent P "quoted_code" 356 (.ref 118), ent P "hex_worth" 363 (.ref 125), ent P "quoted_at" 373 (.ref 132), ent P "is_plain" 380 (.ref 139), ent P "line_pieces" 390 (.ref 146), ent P "soft_lines" 402 (.ref 153), ent P "text_lines" 410 (.ref 160), ent P "quoted_encoded" 422 (.ref 168), ent P "joined_lines" 431 (.ref 175), ent P "line_parts" 441 (.ref 182), ent P "unquoted" 451 (.ref 189), ent P "quoted_decoded" 462 (.ref 196), ent P "MOST_LINE" 466 (.int 998 465), ent P "is_seven_bit" 472 (.ref 201), ent P "in_encoding" 481 (.ref 208), ent P "undone" 491 (.ref 215), ent P "_law_draw" 503 (.ref 222), ent P "_law_octets" 516 (.ref 223), ent P "_law_hard_ends" 522 (.ref 228), ent P "law" 528 (.ref 233)] 50 }
/-- the written part of the heap -/
noncomputable def K (P : Params) : Frag := [(3, globs P),
  (49, { cls := .type "tuple", data := .seq #[.int 76 236] }),
  (64, { cls := .type "tuple", data := .seq #[.int 0 261, .int (-1) 263] }),
  (161, { cls := .type "tuple", data := .seq #[.bool true, .int 76 411] }),
  (223, { cls := .type "tuple", data := .seq #[.bytes #[97] 504, .bytes #[90, 122] 505, .bytes #[32] 506, .bytes #[9] 507, .bytes #[13] 508, .bytes #[10] 509, .bytes #[13, 10] 510, .bytes #[46] 511, .bytes #[61] 512, .bytes #[0] 513, .bytes #[128] 514, .bytes #[255] 515] }),
  (18, cdObj "worth_table" 195 5 1 15 (.none) (.none) (.none) 17 198 199),
  (19, fnObj 4 "worth_table" (.none) "postkeep.base64" 187 18),
  (23, cdObj "group_codes" 201 7 2 20 (.none) (.none) (.none) 22 204 205),
  (24, fnObj 5 "group_codes" (.none) "postkeep.base64" 187 23),
  (28, cdObj "group_octets" 207 14 1 25 (.none) (.none) (.none) 27 210 211),
  (29, fnObj 6 "group_octets" (.none) "postkeep.base64" 187 28),
  (35, cdObj "part_encoded" 213 22 2 30 (.none) (.ref 32) (.ref 33) 34 220 221),
  (36, fnObj 7 "part_encoded" (.none) "postkeep.base64" 187 35),
  (42, cdObj "one_line" 223 27 1 37 (.none) (.ref 39) (.ref 40) 41 227 228),
  (43, fnObj 8 "one_line" (.none) "postkeep.base64" 187 42),
  (47, cdObj "in_lines" 230 29 2 44 (.none) (.none) (.none) 46 233 234),
  (48, fnObj 9 "in_lines" (.none) "postkeep.base64" 187 47),
  (55, cdObj "encoded" 237 33 2 50 (.none) (.ref 52) (.ref 53) 54 242 243),
  (56, fnObj 10 "encoded" (.ref 49) "postkeep.base64" 187 55),
  (62, cdObj "decoded" 245 35 1 57 (.none) (.ref 59) (.ref 60) 61 254 255),
  (63, fnObj 11 "decoded" (.none) "postkeep.base64" 187 62),
  (70, cdObj "line_spans" 264 50 3 65 (.none) (.ref 67) (.ref 68) 69 275 276),
  (71, fnObj 14 "line_spans" (.ref 64) "postkeep.octets" 257 70),
  (117, cdObj "quoted_code" 350 82 1 112 (.none) (.ref 114) (.ref 115) 116 354 355),
  (118, fnObj 25 "quoted_code" (.none) "postkeep.quoted" 336 117),
  (124, cdObj "hex_worth" 357 84 1 119 (.none) (.ref 121) (.ref 122) 123 361 362),
  (125, fnObj 26 "hex_worth" (.none) "postkeep.quoted" 336 124),
  (131, cdObj "quoted_at" 364 92 2 126 (.none) (.ref 128) (.ref 129) 130 371 372),
  (132, fnObj 27 "quoted_at" (.none) "postkeep.quoted" 336 131),
  (138, cdObj "is_plain" 374 98 1 133 (.none) (.ref 135) (.ref 136) 137 378 379),
  (139, fnObj 28 "is_plain" (.none) "postkeep.quoted" 336 138),
  (145, cdObj "line_pieces" 381 100 1 140 (.none) (.ref 142) (.ref 143) 144 388 389),
  (146, fnObj 29 "line_pieces" (.none) "postkeep.quoted" 336 145),
  (152, cdObj "soft_lines" 391 109 2 147 (.none) (.ref 149) (.ref 150) 151 400 401),
  (153, fnObj 30 "soft_lines" (.none) "postkeep.quoted" 336 152),
  (159, cdObj "text_lines" 403 119 2 154 (.none) (.ref 156) (.ref 157) 158 408 409),
  (160, fnObj 31 "text_lines" (.none) "postkeep.quoted" 336 159),
  (167, cdObj "quoted_encoded" 412 121 3 162 (.none) (.ref 164) (.ref 165) 166 420 421),
  (168, fnObj 32 "quoted_encoded" (.ref 161) "postkeep.quoted" 336 167),
  (174, cdObj "joined_lines" 423 129 1 169 (.none) (.ref 171) (.ref 172) 173 429 430),
  (175, fnObj 33 "joined_lines" (.none) "postkeep.quoted" 336 174),
  (181, cdObj "line_parts" 432 136 1 176 (.none) (.ref 178) (.ref 179) 180 439 440),
  (182, fnObj 34 "line_parts" (.none) "postkeep.quoted" 336 181),
  (188, cdObj "unquoted" 442 148 1 183 (.none) (.ref 185) (.ref 186) 187 449 450),
  (189, fnObj 35 "unquoted" (.none) "postkeep.quoted" 336 188),
  (195, cdObj "quoted_decoded" 452 160 1 190 (.none) (.ref 192) (.ref 193) 194 460 461),
  (196, fnObj 36 "quoted_decoded" (.none) "postkeep.quoted" 336 195),
  (200, cdObj "is_seven_bit" 467 171 1 197 (.none) (.none) (.none) 199 470 471),
  (201, fnObj 39 "is_seven_bit" (.none) "postkeep.build" 463 200),
  (207, cdObj "in_encoding" 473 179 3 202 (.none) (.ref 204) (.ref 205) 206 479 480),
  (208, fnObj 40 "in_encoding" (.none) "postkeep.build" 463 207),
  (214, cdObj "undone" 484 184 2 209 (.none) (.ref 211) (.ref 212) 213 489 490),
  (215, fnObj 42 "undone" (.none) "postkeep.parts" 482 214),
  (221, cdObj "_law_draw" 494 191 2 216 (.none) (.ref 218) (.ref 219) 220 501 502),
  (222, fnObj 44 "_law_draw" (.none) "law_or0049_01" 492 221),
  (227, cdObj "_law_hard_ends" 517 197 1 224 (.none) (.none) (.none) 226 520 521),
  (228, fnObj 46 "_law_hard_ends" (.none) "law_or0049_01" 492 227)]
def kAt : List Addr := [3, 49, 64, 161, 223, 18, 19, 23, 24, 28, 29, 35, 36, 42, 43, 47, 48, 55, 56, 62, 63, 70, 71, 117, 118, 124, 125, 131, 132, 138, 139, 145, 146, 152, 153, 159, 160, 167, 168, 174, 175, 181, 182, 188, 189, 195, 196, 200, 201, 207, 208, 214, 215, 221, 222, 227, 228]
theorem kAt_is (P : Params) : kAt = (K P).map (·.1) := rfl
/-- the part of the text that the law stands on -/
noncomputable def view : Program := { PySem.Challenge.pw_or0049_01 with main := { PySem.Challenge.pw_or0049_01.main with body := [1, 2, 3, 4, 5, 6, 7, 8, 9, 11, 13, 16, 17, 19, 20, 21, 22, 23, 24, 25, 26, 27, 28, 29, 30, 31, 33, 34, 35, 36, 38, 39, 40, 42, 44, 45, 46, 47].filterMap (PySem.Challenge.pw_or0049_01.main.body[·]?) } }
abbrev loose : List Str := ["encoded", "line_spans", "PostError", "quoted_encoded"]
end Mine
end
section
open PySem PySem.W PyProof.Rows
namespace Mine
noncomputable abbrev hook : Hook := kHook K kAt kAt_is
/-- the run of the text's top -/
theorem left : LeftO PySem.Challenge.rw_or0049_01.row.prog view loose (fun s => xlAt view [] s && recOk (RowW.records (OpenRow.toRowW PySem.Challenge.rw_or0049_01.row)) s) (Hook.obs hook) (Hook.val hook) 3104 := by
  intro w; kernel_rfl
end Mine
end
section
open PySem PySem.W PyProof.Rows PySem.Calls
namespace Mine

/-- what the whole proof stands on: the program, the world, the heap at the law's call, the globals -/
structure Cx where
  prog : Program
  w : World
  g : Heap
  mg : Str → Option Value
  mb : Str → Option Value

structure Cx.Ok (C : Cx) : Prop where
  gl : C.g.Ns mainGlobals C.mg
  bl : C.g.Ns builtinsNs C.mb
  nolimit : C.g.NoLimit

noncomputable abbrev KeepH (h h' : Heap) : Prop := ∀ b o, h.get? b = some o → h'.get? b = some o
/-- all but what W holds is kept -/
noncomputable def ChgH (W : List Addr) (h h' : Heap) : Prop := ∀ b o, b ∉ W → h.get? b = some o → h'.get? b = some o
noncomputable def Chg (W : List Addr) (s s' : Shared) : Prop := ∃ h' tk, s' = { s with heap := h', toks := tk } ∧ ChgH W s.heap h'

theorem KeepH.refl (h : Heap) : KeepH h h := fun _ _ e => e
theorem KeepH.trans {a b c : Heap} (x : KeepH a b) (y : KeepH b c) : KeepH a c := fun _ _ e => y _ _ (x _ _ e)
theorem KeepH.push (h : Heap) (o : Obj) : KeepH h (h.push o) := fun _ _ e => Heap.get?_push_of_some _ e
theorem KeepH.chg {a b : Heap} {W} (x : KeepH a b) : ChgH W a b := fun _ _ _ e => x _ _ e
theorem keepsRefl (s : Shared) : Keeps s s := ⟨s.heap, s.toks, rfl, fun _ _ e => e⟩
theorem keepsTok (s : Shared) (t : Nat) : Keeps s { s with toks := t } := ⟨s.heap, t, rfl, fun _ _ e => e⟩
theorem keepsOf {s : Shared} {h : Heap} {t : Nat} (k : KeepH s.heap h) : Keeps s { s with heap := h, toks := t } := ⟨h, t, rfl, k⟩
theorem keepsTrans {a b c : Shared} (x : Keeps a b) (y : Keeps b c) : Keeps a c := by
  obtain ⟨h, t, rfl, k⟩ := x
  obtain ⟨h', t', rfl, k'⟩ := y
  exact ⟨h', t', rfl, fun _ _ e => k' _ _ (k _ _ e)⟩
theorem keepsHeap {a b : Shared} (x : Keeps a b) : KeepH a.heap b.heap := by
  obtain ⟨h, t, rfl, k⟩ := x
  exact k
theorem keepsChg {a b : Shared} {W} (x : Keeps a b) : Chg W a b := by
  obtain ⟨h, t, rfl, k⟩ := x
  exact ⟨h, t, rfl, fun _ _ _ e => k _ _ e⟩
theorem chgRefl (s : Shared) {W} : Chg W s s := keepsChg (keepsRefl s)
theorem chgHeap {a b : Shared} {W} (x : Chg W a b) : ChgH W a.heap b.heap := by
  obtain ⟨h, t, rfl, k⟩ := x
  exact k
theorem sizeOfKeep {h h' : Heap} (k : KeepH h h') {a : Addr} (ha : (h.get? a).isSome) : a < h'.objs.size := by
  obtain ⟨o, e⟩ := Option.isSome_iff_exists.mp ha
  exact Heap.lt_size (k _ _ e)

/-- the pure values -/
inductive PV where
  | none
  | bool (b : Bool)
  | int (i : Int)
  | str (x : Str)
  | bytes (l : List UInt8)
  | tup (l : List PV)
  | lst (l : List PV)
  | own (l : List PV)
  | rng (lo : Int) (n : Nat) (st : Int)
  | tab (f : Int → Option Int)
  | slc (lo hi : Option Int)
  | val (v : Value)

/-- a range object -/
noncomputable def IsRng (h : Heap) (a : Addr) (lo : Int) (n : Nat) (st : Int) : Prop :=
  ∃ b t u v, IsRange h a lo b st t u v ∧ Builtin.Range.small lo b st = true ∧ Builtin.Range.rangeSize lo b st = (n : Int)

/-- a dict of ints -/
noncomputable def IsTab (C : Cx) (h : Heap) (a : Addr) (f : Int → Option Int) : Prop :=
  (a == sysModules) = false ∧ ∃ m : Int → Option Value, h.MapOf (intKind C.prog C.w) a m ∧ ∀ k, match f k with | some i => ∃ t, m k = some (.int i t) | Option.none => m k = Option.none

/-- a slice object -/
noncomputable def IsSl (h : Heap) (a : Addr) (lo hi : Option Int) : Prop := ∃ l u, h.IsSliceOf a l u .none ∧ IsPart l lo ∧ IsPart u hi

mutual
inductive Rep (C : Cx) (P : List Addr) (h : Heap) : Value → PV → Prop
  | none : Rep C P h .none .none
  | bool (b : Bool) : Rep C P h (.bool b) (.bool b)
  | int (i : Int) (t : Tok) : Rep C P h (.int i t) (.int i)
  | str (x : Str) (t : Tok) : Rep C P h (.str x t) (.str x)
  | bytes (l : List UInt8) (t : Tok) : Rep C P h (.bytes l.toArray t) (.bytes l)
  | tup {a : Addr} {vs : List Value} {l : List PV} : a ∉ P → IsTup h a vs.toArray → RepAll C P h vs l → Rep C P h (.ref a) (.tup l)
  | lst {a : Addr} {vs : List Value} {l : List PV} : a ∉ P → h.PlainList a vs.toArray → RepAll C P h vs l → Rep C P h (.ref a) (.lst l)
  | rng {a : Addr} {lo : Int} {n : Nat} {st : Int} : a ∉ P → IsRng h a lo n st → Rep C P h (.ref a) (.rng lo n st)
  | tab {a : Addr} {f : Int → Option Int} : a ∉ P → IsTab C h a f → Rep C P h (.ref a) (.tab f)
  | slc {a : Addr} {lo hi : Option Int} : a ∉ P → IsSl h a lo hi → Rep C P h (.ref a) (.slc lo hi)
  | val (v : Value) : Rep C P h v (.val v)
inductive RepAll (C : Cx) (P : List Addr) (h : Heap) : List Value → List PV → Prop
  | nil : RepAll C P h [] []
  | cons {v : Value} {vs : List Value} {p : PV} {ps : List PV} : Rep C P h v p → RepAll C P h vs ps → RepAll C P h (v :: vs) (p :: ps)
end

/-- at the top a list that is the frame's own may stand -/
noncomputable def RepT (C : Cx) (P : List Addr) (h : Heap) (v : Value) (p : PV) : Prop :=
  Rep C P h v p ∨ ∃ l a vs, p = .own l ∧ v = .ref a ∧ h.PlainList a vs.toArray ∧ RepAll C P h vs l

mutual
theorem Rep.move {C : Cx} {P P' : List Addr} {h h' : Heap} (k : ∀ b o, b ∉ P → h.get? b = some o → b ∉ P' ∧ h'.get? b = some o) : ∀ {v : Value} {p : PV}, Rep C P h v p → Rep C P' h' v p
  | _, _, .none => .none
  | _, _, .bool b => .bool b
  | _, _, .int i t => .int i t
  | _, _, .str x t => .str x t
  | _, _, .bytes l t => .bytes l t
  | _, _, .tup ha ht hr => by
    obtain ⟨o, e, q⟩ := ht
    exact .tup (k _ _ ha e).1 ⟨o, (k _ _ ha e).2, q⟩ (hr.move k)
  | _, _, .lst ha ht hr => by
    obtain ⟨m, e⟩ := ht
    exact .lst (k _ _ ha e).1 ⟨m, (k _ _ ha e).2⟩ (hr.move k)
  | _, _, .rng ha ht => by
    obtain ⟨b, t, u, v, r, hs, hn⟩ := ht
    have e := r
    exact .rng (k _ _ ha e).1 ⟨b, t, u, v, (k _ _ ha e).2, hs, hn⟩
  | _, _, .tab ha ht => by
    obtain ⟨hs, m, hm, hf⟩ := ht
    obtain ⟨o, es, ep, e, q⟩ := hm
    exact .tab (k _ _ ha e).1 ⟨hs, m, ⟨o, es, ep, (k _ _ ha e).2, q⟩, hf⟩
  | _, _, .slc ha ht => by
    obtain ⟨l, u, ⟨o, e, q⟩, hl, hu⟩ := ht
    exact .slc (k _ _ ha e).1 ⟨l, u, ⟨o, (k _ _ ha e).2, q⟩, hl, hu⟩
  | _, _, .val v => .val v
theorem RepAll.move {C : Cx} {P P' : List Addr} {h h' : Heap} (k : ∀ b o, b ∉ P → h.get? b = some o → b ∉ P' ∧ h'.get? b = some o) : ∀ {vs : List Value} {ps : List PV}, RepAll C P h vs ps → RepAll C P' h' vs ps
  | _, _, .nil => .nil
  | _, _, .cons a r => .cons (a.move k) (r.move k)
end

theorem Rep.keep {C : Cx} {P : List Addr} {h h' : Heap} (k : KeepH h h') {v : Value} {p : PV} (r : Rep C P h v p) : Rep C P h' v p := r.move fun b o hb e => ⟨hb, k b o e⟩
theorem RepAll.keep {C : Cx} {P : List Addr} {h h' : Heap} (k : KeepH h h') {vs : List Value} {ps : List PV} (r : RepAll C P h vs ps) : RepAll C P h' vs ps := r.move fun b o hb e => ⟨hb, k b o e⟩
theorem RepT.keep {C : Cx} {P : List Addr} {h h' : Heap} (k : KeepH h h') {v : Value} {p : PV} (r : RepT C P h v p) : RepT C P h' v p := by
  rcases r with r | ⟨l, a, vs, rfl, rfl, ⟨n, e⟩, hr⟩
  · exact .inl (r.keep k)
  · exact .inr ⟨l, a, vs, rfl, rfl, ⟨n, k _ _ e⟩, hr.keep k⟩
theorem RepAll.length {C : Cx} {P : List Addr} {h : Heap} : ∀ {vs : List Value} {ps : List PV}, RepAll C P h vs ps → vs.length = ps.length
  | _, _, .nil => rfl
  | _, _, .cons _ r => congrArg (· + 1) r.length
theorem RepAll.get {C : Cx} {P : List Addr} {h : Heap} : ∀ {vs : List Value} {ps : List PV}, RepAll C P h vs ps → ∀ {i : Nat} {p : PV}, ps[i]? = some p → ∃ v, vs[i]? = some v ∧ Rep C P h v p
  | _, _, .nil, i, p, e => by simp at e
  | _, _, .cons a r, i, p, e => by
    cases i with
    | zero => simp at e; subst e; exact ⟨_, rfl, a⟩
    | succ i => simp at e; simpa using r.get e
theorem RepAll.get' {C : Cx} {P : List Addr} {h : Heap} : ∀ {vs : List Value} {ps : List PV}, RepAll C P h vs ps → ∀ {i : Nat} {v : Value}, vs[i]? = some v → ∃ p, ps[i]? = some p ∧ Rep C P h v p
  | _, _, .nil, i, p, e => by simp at e
  | _, _, .cons a r, i, p, e => by
    cases i with
    | zero => simp at e; subst e; exact ⟨_, rfl, a⟩
    | succ i => simp at e; simpa using r.get' e
theorem RepAll.append {C : Cx} {P : List Addr} {h : Heap} : ∀ {vs : List Value} {ps : List PV} {ws : List Value} {qs : List PV}, RepAll C P h vs ps → RepAll C P h ws qs → RepAll C P h (vs ++ ws) (ps ++ qs)
  | _, _, _, _, .nil, y => y
  | _, _, _, _, .cons a r, y => .cons a (r.append y)
theorem RepAll.take {C : Cx} {P : List Addr} {h : Heap} : ∀ {vs : List Value} {ps : List PV} (n : Nat), RepAll C P h vs ps → RepAll C P h (vs.take n) (ps.take n)
  | _, _, 0, _ => .nil
  | _, _, _ + 1, .nil => .nil
  | _, _, n + 1, .cons a r => .cons a (r.take n)
theorem RepAll.drop {C : Cx} {P : List Addr} {h : Heap} : ∀ {vs : List Value} {ps : List PV} (n : Nat), RepAll C P h vs ps → RepAll C P h (vs.drop n) (ps.drop n)
  | _, _, 0, r => r
  | _, _, _ + 1, .nil => .nil
  | _, _, n + 1, .cons _ r => r.drop n
noncomputable def PV.isOwn : PV → Bool
  | .own _ => true
  | _ => false
theorem RepT.rep {C : Cx} {P : List Addr} {h : Heap} {v : Value} {p : PV} (r : RepT C P h v p) (e : p.isOwn = false) : Rep C P h v p := by
  rcases r with r | ⟨l, a, vs, rfl, _⟩
  · exact r
  · cases e

/-- a name's value -/
noncomputable def VarIs (env : Env) (h : Heap) (x : Str) (v : Value) : Prop :=
  (env.kindOf x = some .local ∧ ∃ m, h.Ns env.locals m ∧ m x = some v) ∨ (env.kindOf x = some .cell ∧ ∃ c, env.cells.lookup x = some c ∧ h.IsCell c (some v))
theorem VarIs.keep {env : Env} {h h' : Heap} {x : Str} {v : Value} (k : KeepH h h') (r : VarIs env h x v) : VarIs env h' x v := by
  rcases r with ⟨hl, m, hn, hm⟩ | ⟨hc, c, hl, hi⟩
  · exact .inl ⟨hl, m, hn.keeps k, hm⟩
  · exact .inr ⟨hc, c, hl, hi.keeps k⟩

noncomputable abbrev Loc := List (Str × PV)

/-- a name of the frame's, its value as it stands -/
noncomputable def SlotIs (C : Cx) (env : Env) (P W : List Addr) (h : Heap) (ad : Str → Addr) (x : Str) (p : PV) : Prop :=
  match p with
  | .own l => VarIs env h x (.ref (ad x)) ∧ ad x ∈ W ∧ ∃ vs, h.PlainList (ad x) vs.toArray ∧ RepAll C P h vs l
  | p => ∃ v, VarIs env h x v ∧ Rep C P h v p

structure StR (C : Cx) (env : Env) (Pout W : List Addr) (σ : Loc) (s : Shared) : Prop where
  keep : KeepH C.g s.heap
  there : ∀ a ∈ Pout ++ W, ∃ o, s.heap.get? a = some o
  new : ∀ a ∈ Pout ++ W, C.g.get? a = none
  disj : ∀ a ∈ W, a ∉ Pout
  loc : env.locals ∈ W
  cellP : ∀ n c, env.cells.lookup n = some c → c ∈ Pout ++ W
  cellW : env.func.isSome = true → ∀ n c, env.cells.lookup n = some c → c ∈ W ∧ ∃ v, s.heap.IsCell c v
  apart : ∀ n n' c, env.cells.lookup n = some c → env.cells.lookup n' = some c → n = n'
  ns : ∃ m, s.heap.Ns env.locals m
  vars : ∃ ad : Str → Addr, (∀ x p, σ.lookup x = some p → SlotIs C env (Pout ++ W) W s.heap ad x p) ∧
    ∀ x y l l', σ.lookup x = some (.own l) → σ.lookup y = some (.own l') → ad x = ad y → x = y

theorem SlotIs.keep {C : Cx} {env : Env} {P W : List Addr} {h h' : Heap} {ad : Str → Addr} {x : Str} {p : PV} (k : KeepH h h') (r : SlotIs C env P W h ad x p) : SlotIs C env P W h' ad x p := by
  cases p with
  | own l =>
    obtain ⟨hv, hw, vs, ⟨n, e⟩, hr⟩ := r
    exact ⟨hv.keep k, hw, vs, ⟨n, k _ _ e⟩, hr.keep k⟩
  | _ => obtain ⟨v, hv, hr⟩ := r; exact ⟨v, hv.keep k, hr.keep k⟩

theorem StR.quiet {C : Cx} {env : Env} {Pout W : List Addr} {σ : Loc} {s s' : Shared} (S : StR C env Pout W σ s) (K : Keeps s s') : StR C env Pout W σ s' := by
  have k := keepsHeap K
  obtain ⟨ad, hv, hd⟩ := S.vars
  obtain ⟨m, hm⟩ := S.ns
  exact ⟨S.keep.trans k, fun a ha => let ⟨o, e⟩ := S.there a ha; ⟨o, k _ _ e⟩, S.new, S.disj, S.loc, S.cellP, fun hf n c e => let ⟨a, v, hi⟩ := S.cellW hf n c e; ⟨a, v, hi.keeps k⟩, S.apart, ⟨m, hm.keeps k⟩, ad, fun x p e => (hv x p e).keep k, hd⟩

theorem StR.weaken {C : Cx} {env : Env} {Pout W : List Addr} {σ σ' : Loc} {s : Shared} (S : StR C env Pout W σ s) (k : ∀ x p, σ'.lookup x = some p → σ.lookup x = some p) : StR C env Pout W σ' s := by
  obtain ⟨ad, hv, hd⟩ := S.vars
  exact { S with vars := ⟨ad, fun x p e => hv x p (k x p e), fun x y l l' e e' => hd x y l l' (k _ _ e) (k _ _ e')⟩ }

/-- room for n more calls -/
noncomputable def Rm (n : Nat) (A : Around) : Prop := A.handled = none ∧ A.depth + n < recursionLimit ∧ A.units + 16 * n + 16 < cLine
theorem Rm.hh {n : Nat} {A : Around} (h : Rm n A) : A.handled = none := h.1
theorem Rm.le {n m : Nat} {A : Around} (h : Rm n A) (k : m ≤ n) : Rm m A := ⟨h.1, by have := h.2.1; omega, by have := h.2.2; omega⟩
theorem Rm.deeper {n : Nat} {A : Around} (h : Rm (n + 1) A) (env : Env) : Rm n (A.deeper env) := ⟨h.1, by have := h.2.1; show A.depth + 1 + n < _; omega, by have := h.2.2; show A.units + 3 + _ + _ < _; omega⟩

noncomputable abbrev Cx.M (C : Cx) : Model := model C.prog C.w
noncomputable abbrev noE : Value → Shared → Prop := fun _ _ => False

theorem anyE {α : Type} {M : Model} {A : Around} {t : Sem α} {Q : α → Shared → Prop} {E : Value → Shared → Prop} {s : Shared} (h : wpAny M A t Q noE s) : wpAny M A t Q E s := wpAny_mono h (fun _ _ x => x) fun _ _ x => x.elim

/-- an expression's value; nothing that stands is changed -/
noncomputable def EvE (C : Cx) (n : Nat) (env : Env) (σ : Loc) (e : Expr) (p : PV) : Prop :=
  ∀ A Pout W s, Rm n A → StR C env Pout W σ s → wpAny C.M A (eval e env) (fun v s' => RepT C (Pout ++ W) s'.heap v p ∧ Keeps s s') noE s
/-- a test's truth -/
noncomputable def EvB (C : Cx) (n : Nat) (env : Env) (σ : Loc) (e : Expr) (b : Bool) : Prop :=
  ∀ A Pout W s, Rm n A → StR C env Pout W σ s → wpAny C.M A (isTrue e env (eval e env)) (fun r s' => r = b ∧ Keeps s s') noE s

/-- what is said of values: they stand in a heap that holds g; P is not touched -/
noncomputable def PrivOk (C : Cx) (P : List Addr) (h : Heap) : Prop := ∀ x ∈ P, (∃ o, h.get? x = some o) ∧ C.g.get? x = none
theorem PrivOk.keep {C : Cx} {P : List Addr} {h h' : Heap} (k : KeepH h h') (x : PrivOk C P h) : PrivOk C P h' := fun a ha => let ⟨⟨o, e⟩, f⟩ := x a ha; ⟨⟨o, k _ _ e⟩, f⟩
theorem StR.priv {C : Cx} {env : Env} {Pout W : List Addr} {σ : Loc} {s : Shared} (S : StR C env Pout W σ s) : PrivOk C (Pout ++ W) s.heap := fun a ha => ⟨S.there a ha, S.new a ha⟩

noncomputable def Op1 (C : Cx) (n : Nat) (f : Value → Sem Value) (a c : PV) : Prop :=
  ∀ A P s v, Rm n A → KeepH C.g s.heap → PrivOk C P s.heap → RepT C P s.heap v a → wpAny C.M A (f v) (fun r s' => RepT C P s'.heap r c ∧ Keeps s s') noE s
noncomputable def Op2 (C : Cx) (n : Nat) (f : Value → Value → Sem Value) (a b c : PV) : Prop :=
  ∀ A P s v u, Rm n A → KeepH C.g s.heap → PrivOk C P s.heap → RepT C P s.heap v a → RepT C P s.heap u b → wpAny C.M A (f v u) (fun r s' => RepT C P s'.heap r c ∧ Keeps s s') noE s
noncomputable def Tr (C : Cx) (n : Nat) (a : PV) (b : Bool) : Prop :=
  ∀ A P s v, Rm n A → KeepH C.g s.heap → PrivOk C P s.heap → RepT C P s.heap v a → wpAny C.M A (truthy v) (fun r s' => r = b ∧ Keeps s s') noE s
/-- a call by place -/
inductive RepTs (C : Cx) (P : List Addr) (h : Heap) : List Value → List PV → Prop
  | nil : RepTs C P h [] []
  | cons {v : Value} {vs : List Value} {p : PV} {ps : List PV} : RepT C P h v p → RepTs C P h vs ps → RepTs C P h (v :: vs) (p :: ps)
theorem RepTs.keep {C : Cx} {P : List Addr} {h h' : Heap} (k : KeepH h h') : ∀ {vs : List Value} {ps : List PV}, RepTs C P h vs ps → RepTs C P h' vs ps
  | _, _, .nil => .nil
  | _, _, .cons a r => .cons (a.keep k) (r.keep k)
noncomputable def CallR (C : Cx) (n : Nat) (f : Value) (args : List PV) (c : PV) : Prop :=
  ∀ A P s vs, Rm n A → KeepH C.g s.heap → PrivOk C P s.heap → RepTs C P s.heap vs args → wpAny C.M A (call f vs) (fun r s' => RepT C P s'.heap r c ∧ Keeps s s') noE s

section
variable {C : Cx} {n : Nat} {env : Env} {σ : Loc}

theorem SlotIs.repT {P W : List Addr} {h : Heap} {ad : Str → Addr} {x : Str} {p : PV} (r : SlotIs C env P W h ad x p) : ∃ v, VarIs env h x v ∧ RepT C P h v p := by
  cases p with
  | own l =>
    obtain ⟨hv, hw, vs, hl, hr⟩ := r
    exact ⟨_, hv, .inr ⟨l, _, vs, rfl, rfl, hl, hr⟩⟩
  | _ => obtain ⟨v, hv, hr⟩ := r; exact ⟨v, hv, .inl hr⟩

theorem EvE.name {x : Str} {pos : Pos} {p : PV} (hs : σ.lookup x = some p) (hk : env.scope.kind = .function) (hd : (x == ("__debug__" : Str)) = false := by decide) : EvE C n env σ (.Name x pos) p := by
  intro A Pout W s _ S
  obtain ⟨ad, hv, _⟩ := S.vars
  obtain ⟨v, hv, hr⟩ := (hv x p hs).repT
  rcases hv with ⟨hl, m, hn, hm⟩ | ⟨hc, c, hl, hi⟩
  · exact wpAny_Name (wpAny_loadName_local hk hl hn hm ⟨hr, keepsRefl s⟩) hd
  · exact wpAny_Name (wpAny_loadName_cell hk hc hl hi ⟨hr, keepsRefl s⟩) hd


theorem EvE.glob (K : C.Ok) {x : Str} {pos : Pos} {v : Value} {p : PV} (hv : C.mg x = some v) (hp : ∀ h, KeepH C.g h → ∀ P : List Addr, (∀ a ∈ P, C.g.get? a = none) → Rep C P h v p) (hk : env.scope.kind = .function) (hg : env.globals = mainGlobals)
    (hx : env.kindOf x = some .globalImplicit) (hd : (x == ("__debug__" : Str)) = false := by decide) : EvE C n env σ (.Name x pos) p := by
  intro A Pout W s _ S
  exact Name_function_global hk hx (loadGlobal_global (by rw [hg]; exact K.gl.keeps S.keep) hv ⟨.inl (hp _ S.keep _ S.new), keepsRefl s⟩) hd
theorem EvE.built (K : C.Ok) {x : Str} {pos : Pos} {v : Value} (hn : C.mg x = Option.none) (hv : C.mb x = some v) (hk : env.scope.kind = .function) (hg : env.globals = mainGlobals) (hb : env.builtins = builtinsNs)
    (hx : env.kindOf x = some .globalImplicit) (hd : (x == ("__debug__" : Str)) = false := by decide) : EvE C n env σ (.Name x pos) (.val v) := by
  intro A Pout W s _ S
  exact Name_function_global hk hx (loadGlobal_builtin (by rw [hg]; exact K.gl.keeps S.keep) hn (by rw [hb]; exact K.bl.keeps S.keep) hv ⟨.inl (.val v), keepsRefl s⟩) hd

theorem EvE.cInt {i : Int} {k : Nat} {pos : Pos} : EvE C n env σ (.Constant (.int i) k pos) (.int i) :=
  fun _ _ _ s _ _ => wpAny_Constant_int ⟨.inl (.int i _), keepsTok s _⟩
theorem EvE.cBytes {l : List UInt8} {k : Nat} {pos : Pos} : EvE C n env σ (.Constant (.bytes l) k pos) (.bytes l) :=
  fun _ _ _ s _ _ => Constant_bytes ⟨.inl (.bytes l _), keepsTok s _⟩
theorem EvE.cStr {x : Str} {k : Nat} {pos : Pos} : EvE C n env σ (.Constant (.str x) k pos) (.str x) :=
  fun _ _ _ s _ _ => Constant_str ⟨.inl (.str x _), keepsTok s _⟩
theorem EvE.cBool {b : Bool} {k : Nat} {pos : Pos} : EvE C n env σ (.Constant (.bool b) k pos) (.bool b) :=
  fun _ _ _ s _ _ => Constant_bool ⟨.inl (.bool b), keepsRefl s⟩

/-- then: behind one quiet step another -/
theorem thenQ {α β : Type} {M : Model} {A : Around} {t : Sem α} {Q : α → Shared → Prop} {R : β → Shared → Prop} {f : α → Shared → Sem β} {s : Shared}
    (h : wpAny M A t (fun a s' => Q a s' ∧ Keeps s s') noE s) (k : ∀ a s', Q a s' → Keeps s s' → wpAny M A (f a s') (fun b s'' => R b s'' ∧ Keeps s' s'') noE s') :
    wpAny M A t (fun a s' => wpAny M A (f a s') (fun b s'' => R b s'' ∧ Keeps s s'') noE s') noE s :=
  wpAny_mono h (fun a s' h' => wpAny_mono (k a s' h'.1 h'.2) (fun b s'' h'' => ⟨h''.1, keepsTrans h'.2 h''.2⟩) fun _ _ x => x) fun _ _ x => x

theorem EvE.binop {l r : Expr} {op : Operator} {pos : Pos} {a b c : PV} (hl : EvE C n env σ l a) (hr : EvE C n env σ r b) (ho : Op2 C n (binaryOp op) a b c) : EvE C n env σ (.BinOp l op r pos) c := by
  intro A Pout W s hA S
  refine wpAny_BinOp ?_
  refine wpAny_mono (hl A Pout W s hA S) (fun v s₁ h₁ => ?_) fun _ _ x => x
  have S₁ := S.quiet h₁.2
  refine wpAny_mono (hr A Pout W s₁ hA S₁) (fun u s₂ h₂ => ?_) fun _ _ x => x
  have S₂ := S₁.quiet h₂.2
  refine wpAny_mono (ho A _ s₂ v u hA S₂.keep S₂.priv (h₁.1.keep (keepsHeap h₂.2)) h₂.1) (fun x s₃ h₃ => ⟨h₃.1, keepsTrans h₁.2 (keepsTrans h₂.2 h₃.2)⟩) fun _ _ x => x
theorem EvE.unop {x : Expr} {op : UnaryOp} {pos : Pos} {a c : PV} (hx : EvE C n env σ x a) (ho : Op1 C n (unaryOp op) a c) : EvE C n env σ (.UnaryOp op x pos) c := by
  intro A Pout W s hA S
  refine UnaryOp_ ?_
  refine wpAny_mono (hx A Pout W s hA S) (fun v s₁ h₁ => ?_) fun _ _ x => x
  have S₁ := S.quiet h₁.2
  exact wpAny_mono (ho A _ s₁ v hA S₁.keep S₁.priv h₁.1) (fun x s₃ h₃ => ⟨h₃.1, keepsTrans h₁.2 h₃.2⟩) fun _ _ x => x
theorem EvE.cmp {l r : Expr} {op : CmpOp} {pos : Pos} {a b c : PV} (hl : EvE C n env σ l a) (hr : EvE C n env σ r b) (ho : Op2 C n (compareOp op) a b c) (hm : behindInMarks op r = false) : EvE C n env σ (.Compare l [op] [r] pos) c := by
  intro A Pout W s hA S
  refine wpAny_Compare1 ?_ hm
  refine wpAny_mono (hl A Pout W s hA S) (fun v s₁ h₁ => ?_) fun _ _ x => x
  have S₁ := S.quiet h₁.2
  refine wpAny_mono (hr A Pout W s₁ hA S₁) (fun u s₂ h₂ => ?_) fun _ _ x => x
  have S₂ := S₁.quiet h₂.2
  exact wpAny_mono (ho A _ s₂ v u hA S₂.keep S₂.priv (h₁.1.keep (keepsHeap h₂.2)) h₂.1) (fun x s₃ h₃ => ⟨h₃.1, keepsTrans h₁.2 (keepsTrans h₂.2 h₃.2)⟩) fun _ _ x => x
theorem RepT.bool_inv {P : List Addr} {h : Heap} {v : Value} {b : Bool} (r : RepT C P h v (.bool b)) : v = .bool b := by
  cases r.rep rfl; rfl
theorem RepT.int_inv {P : List Addr} {h : Heap} {v : Value} {i : Int} (r : RepT C P h v (.int i)) : ∃ t, v = .int i t := by
  cases r.rep rfl; exact ⟨_, rfl⟩
theorem RepT.str_inv {P : List Addr} {h : Heap} {v : Value} {x : Str} (r : RepT C P h v (.str x)) : ∃ t, v = .str x t := by
  cases r.rep rfl; exact ⟨_, rfl⟩
theorem RepT.bytes_inv {P : List Addr} {h : Heap} {v : Value} {l : List UInt8} (r : RepT C P h v (.bytes l)) : ∃ t, v = .bytes l.toArray t := by
  cases r.rep rfl; exact ⟨_, rfl⟩
theorem RepT.val_inv {P : List Addr} {h : Heap} {v u : Value} (r : RepT C P h v (.val u)) : v = u := by
  cases r.rep rfl; rfl
/-- a list, the frame's own or not -/
noncomputable def PV.items? : PV → Option (List PV)
  | .lst l => some l
  | .own l => some l
  | _ => Option.none
theorem RepT.items_inv {P : List Addr} {h : Heap} {v : Value} {p : PV} {l : List PV} (r : RepT C P h v p) (e : p.items? = some l) : ∃ a vs, v = .ref a ∧ h.PlainList a vs.toArray ∧ RepAll C P h vs l := by
  rcases r with r | ⟨l', a, vs, rfl, rfl, ⟨k, hl⟩, hr⟩
  · cases p <;> simp only [PV.items?, reduceCtorEq, Option.some.injEq] at e
    · subst e; cases r with | lst ha hl hr => exact ⟨_, _, rfl, hl, hr⟩
    · cases r
  · simp only [PV.items?, Option.some.injEq] at e
    subst e
    exact ⟨a, vs, rfl, ⟨_, hl⟩, hr⟩

theorem EvB.cmp {l r : Expr} {op : CmpOp} {pos : Pos} {a b : PV} {c : Bool} (hl : EvE C n env σ l a) (hr : EvE C n env σ r b) (ho : Op2 C n (compareOp op) a b (.bool c)) (hm : behindInMarks op r = false) : EvB C n env σ (.Compare l [op] [r] pos) c := by
  intro A Pout W s hA S
  refine wpAny_isTrue_Compare1 ?_ hm
  refine wpAny_mono (hl A Pout W s hA S) (fun v s₁ h₁ => ?_) fun _ _ x => x
  have S₁ := S.quiet h₁.2
  refine wpAny_mono (hr A Pout W s₁ hA S₁) (fun u s₂ h₂ => ?_) fun _ _ x => x
  have S₂ := S₁.quiet h₂.2
  refine wpAny_mono (ho A _ s₂ v u hA S₂.keep S₂.priv (h₁.1.keep (keepsHeap h₂.2)) h₂.1) (fun x s₃ h₃ => ?_) fun _ _ x => x
  rw [h₃.1.bool_inv]
  exact wpAny_truthy_bool ⟨rfl, keepsTrans h₁.2 (keepsTrans h₂.2 h₃.2)⟩
theorem EvB.plain {e : Expr} {p : PV} {b : Bool} (he : EvE C n env σ e p) (ht : Tr C n p b) (hp : ∀ whole, isTrue e env whole = (do let v ← whole; standAt e.pos; holding [v] (truthy v))) : EvB C n env σ e b := by
  intro A Pout W s hA S
  refine isTrue_plain ?_ (hp _)
  refine wpAny_mono (he A Pout W s hA S) (fun v s₁ h₁ => ?_) fun _ _ x => x
  have S₁ := S.quiet h₁.2
  exact wpAny_mono (ht A _ s₁ v hA S₁.keep S₁.priv h₁.1) (fun x s₃ h₃ => ⟨h₃.1, keepsTrans h₁.2 h₃.2⟩) fun _ _ x => x
theorem Tr.bool {b : Bool} : Tr C n (.bool b) b := by
  intro A P s v _ _ _ r
  rw [r.bool_inv]
  exact wpAny_truthy_bool ⟨rfl, keepsRefl s⟩
theorem EvB.not {x : Expr} {pos : Pos} {b : Bool} (h : EvB C n env σ x b) : EvB C n env σ (.UnaryOp .Not x pos) (!b) := by
  intro A Pout W s hA S
  exact isTrue_not (wpAny_mono (h A Pout W s hA S) (fun c s' h' => ⟨by rw [h'.1], h'.2⟩) fun _ _ x => x)
theorem EvB.andNil {pos : Pos} : EvB C n env σ (.BoolOp .And [] pos) true := fun _ _ _ s _ _ => isTrue_and_nil ⟨rfl, keepsRefl s⟩
theorem EvB.orNil {pos : Pos} : EvB C n env σ (.BoolOp .Or [] pos) false := fun _ _ _ s _ _ => isTrue_or_nil ⟨rfl, keepsRefl s⟩
theorem EvB.and {x : Expr} {rest : List Expr} {pos : Pos} {b c : Bool} (hx : EvB C n env σ x b) (hr : b = true → EvB C n env σ (.BoolOp .And rest pos) c) : EvB C n env σ (.BoolOp .And (x :: rest) pos) (b && c) := by
  intro A Pout W s hA S
  refine isTrue_and (wpAny_mono (hx A Pout W s hA S) (fun d s' h' => ?_) fun _ _ x => x)
  obtain ⟨rfl, K⟩ := h'
  cases d with
  | false => exact ⟨rfl, K⟩
  | true => exact wpAny_mono (hr rfl A Pout W s' hA (S.quiet K)) (fun e s'' h'' => ⟨h''.1, keepsTrans K h''.2⟩) fun _ _ x => x
theorem EvB.or {x : Expr} {rest : List Expr} {pos : Pos} {b c : Bool} (hx : EvB C n env σ x b) (hr : b = false → EvB C n env σ (.BoolOp .Or rest pos) c) : EvB C n env σ (.BoolOp .Or (x :: rest) pos) (b || c) := by
  intro A Pout W s hA S
  refine isTrue_or (wpAny_mono (hx A Pout W s hA S) (fun d s' h' => ?_) fun _ _ x => x)
  obtain ⟨rfl, K⟩ := h'
  cases d with
  | true => exact ⟨rfl, K⟩
  | false => exact wpAny_mono (hr rfl A Pout W s' hA (S.quiet K)) (fun e s'' h'' => ⟨h''.1, keepsTrans K h''.2⟩) fun _ _ x => x
theorem EvE.boolOne {op : BoolOp} {x : Expr} {pos : Pos} {p : PV} (hx : EvE C n env σ x p) : EvE C n env σ (.BoolOp op [x] pos) p := fun A Pout W s hA S => BoolOp_one (hx A Pout W s hA S)
theorem EvE.and {x y : Expr} {rest : List Expr} {pos : Pos} {b c : Bool} (hx : EvE C n env σ x (.bool b)) (hr : b = true → EvE C n env σ (.BoolOp .And (y :: rest) pos) (.bool c)) : EvE C n env σ (.BoolOp .And (x :: y :: rest) pos) (.bool (b && c)) := by
  intro A Pout W s hA S
  refine BoolOp_and (wpAny_mono (hx A Pout W s hA S) (fun v s' h' => ?_) fun _ _ x => x)
  rw [h'.1.bool_inv]
  refine wpAny_truthy_bool ?_
  cases b with
  | false => exact ⟨.inl (.bool _), h'.2⟩
  | true => exact wpAny_mono (hr rfl A Pout W s' hA (S.quiet h'.2)) (fun e s'' h'' => ⟨h''.1, keepsTrans h'.2 h''.2⟩) fun _ _ x => x
theorem EvE.or {x y : Expr} {rest : List Expr} {pos : Pos} {b c : Bool} (hx : EvE C n env σ x (.bool b)) (hr : b = false → EvE C n env σ (.BoolOp .Or (y :: rest) pos) (.bool c)) : EvE C n env σ (.BoolOp .Or (x :: y :: rest) pos) (.bool (b || c)) := by
  intro A Pout W s hA S
  refine BoolOp_or (wpAny_mono (hx A Pout W s hA S) (fun v s' h' => ?_) fun _ _ x => x)
  rw [h'.1.bool_inv]
  refine wpAny_truthy_bool ?_
  cases b with
  | true => exact ⟨.inl (.bool _), h'.2⟩
  | false => exact wpAny_mono (hr rfl A Pout W s' hA (S.quiet h'.2)) (fun e s'' h'' => ⟨h''.1, keepsTrans h'.2 h''.2⟩) fun _ _ x => x
theorem EvE.ite {t x y : Expr} {pos : Pos} {b : Bool} {p : PV} (ht : EvB C n env σ t b) (h1 : b = true → EvE C n env σ x p) (h2 : b = false → EvE C n env σ y p) : EvE C n env σ (.IfExp t x y pos) p := by
  intro A Pout W s hA S
  refine IfExp_ (wpAny_mono (ht A Pout W s hA S) (fun c s' h' => ?_) fun _ _ x => x)
  obtain ⟨rfl, K⟩ := h'
  cases c with
  | true => exact wpAny_mono (h1 rfl A Pout W s' hA (S.quiet K)) (fun e s'' h'' => ⟨h''.1, keepsTrans K h''.2⟩) fun _ _ x => x
  | false => exact wpAny_mono (h2 rfl A Pout W s' hA (S.quiet K)) (fun e s'' h'' => ⟨h''.1, keepsTrans K h''.2⟩) fun _ _ x => x

theorem EvE.chain {l m r : Expr} {o₁ o₂ : CmpOp} {pos : Pos} {a b c : PV} {x y : Bool} (hl : EvE C n env σ l a) (hm : EvE C n env σ m b) (hr : EvE C n env σ r c)
    (h1 : Op2 C n (compareOp o₁) a b (.bool x)) (h2 : x = true → Op2 C n (compareOp o₂) b c (.bool y)) (hmk : lastMarks [o₁, o₂] [m, r] = false) : EvE C n env σ (.Compare l [o₁, o₂] [m, r] pos) (.bool (x && y)) := by
  intro A Pout W s hA S
  refine Compare_chain ?_ hmk
  refine wpAny_mono (hl A Pout W s hA S) (fun v s₁ k₁ => ?_) fun _ _ x => x
  have S₁ := S.quiet k₁.2
  refine chain_link (wpAny_mono (hm A Pout W s₁ hA S₁) (fun u s₂ k₂ => ?_) fun _ _ x => x)
  have S₂ := S₁.quiet k₂.2
  refine wpAny_mono (h1 A _ s₂ v u hA S₂.keep S₂.priv (k₁.1.keep (keepsHeap k₂.2)) k₂.1) (fun d s₃ k₃ => ?_) fun _ _ x => x
  have S₃ := S₂.quiet k₃.2
  rw [k₃.1.bool_inv]
  refine wpAny_truthy_bool ?_
  have K3 := keepsTrans k₁.2 (keepsTrans k₂.2 k₃.2)
  cases x with
  | false => exact ⟨.inl (.bool _), K3⟩
  | true =>
    refine chain_last (wpAny_mono (hr A Pout W s₃ hA S₃) (fun z s₄ k₄ => ?_) fun _ _ x => x)
    have S₄ := S₃.quiet k₄.2
    exact wpAny_mono (h2 rfl A _ s₄ u z hA S₄.keep S₄.priv (k₂.1.keep (keepsHeap (keepsTrans k₃.2 k₄.2))) k₄.1) (fun e s₅ k₅ => ⟨k₅.1, keepsTrans K3 (keepsTrans k₄.2 k₅.2)⟩) fun _ _ x => x
theorem EvB.chain {l m r : Expr} {o₁ o₂ : CmpOp} {pos : Pos} {a b c : PV} {x y : Bool} (hl : EvE C n env σ l a) (hm : EvE C n env σ m b) (hr : EvE C n env σ r c)
    (h1 : Op2 C n (compareOp o₁) a b (.bool x)) (h2 : x = true → Op2 C n (compareOp o₂) b c (.bool y)) (hmk : lastMarks [o₁, o₂] [m, r] = false) : EvB C n env σ (.Compare l [o₁, o₂] [m, r] pos) (x && y) := by
  intro A Pout W s hA S
  refine isTrue_chain ?_ hmk
  refine wpAny_mono (hl A Pout W s hA S) (fun v s₁ k₁ => ?_) fun _ _ x => x
  have S₁ := S.quiet k₁.2
  refine test_link (wpAny_mono (hm A Pout W s₁ hA S₁) (fun u s₂ k₂ => ?_) fun _ _ x => x)
  have S₂ := S₁.quiet k₂.2
  refine wpAny_mono (h1 A _ s₂ v u hA S₂.keep S₂.priv (k₁.1.keep (keepsHeap k₂.2)) k₂.1) (fun d s₃ k₃ => ?_) fun _ _ x => x
  have S₃ := S₂.quiet k₃.2
  rw [k₃.1.bool_inv]
  refine wpAny_truthy_bool ?_
  have K3 := keepsTrans k₁.2 (keepsTrans k₂.2 k₃.2)
  cases x with
  | false => exact ⟨rfl, K3⟩
  | true =>
    refine test_last (wpAny_mono (hr A Pout W s₃ hA S₃) (fun z s₄ k₄ => ?_) fun _ _ x => x)
    have S₄ := S₃.quiet k₄.2
    refine wpAny_mono (h2 rfl A _ s₄ u z hA S₄.keep S₄.priv (k₂.1.keep (keepsHeap (keepsTrans k₃.2 k₄.2))) k₄.1) (fun e s₅ k₅ => ?_) fun _ _ x => x
    rw [k₅.1.bool_inv]
    exact wpAny_truthy_bool ⟨rfl, keepsTrans K3 (keepsTrans k₄.2 k₅.2)⟩
end
end Mine
end
section
open PySem PySem.W PyProof.Rows PySem.Calls
namespace Mine
section
variable {C : Cx} {n : Nat} {env : Env} {σ : Loc}

/-- arguments by place -/
inductive EvAll (C : Cx) (n : Nat) (env : Env) (σ : Loc) : List Expr → List PV → Prop
  | nil : EvAll C n env σ [] []
  | cons {e : Expr} {es : List Expr} {p : PV} {ps : List PV} : EvE C n env σ e p → EvAll C n env σ es ps → (∀ rest, starEach (e :: rest) env = (false, eval e env) :: starEach rest env) → EvAll C n env σ (e :: es) (p :: ps)

theorem backTo_nil (pos : Pos) : backTo pos [] = [] := rfl
theorem EvAll.run {pos : Pos} {es : List Expr} {ps : List PV} (h : EvAll C n env σ es ps) : ∀ {A : Around} {Pout W : List Addr} {s : Shared}, Rm n A → StR C env Pout W σ s →
    wpAny C.M A (spliced (backTo pos (starEach es env))) (fun vs s' => RepTs C (Pout ++ W) s'.heap vs ps ∧ Keeps s s') noE s := by
  induction h with
  | nil => intro A Pout W s hA S; exact spliced_nil ⟨.nil, keepsRefl s⟩
  | cons he _ hs ih =>
    intro A Pout W s hA S
    rw [hs]
    refine spliced_cons (wpAny_mono (he A Pout W s hA S) (fun v s₁ h₁ => ?_) fun _ _ x => x)
    have S₁ := S.quiet h₁.2
    exact wpAny_mono (ih hA S₁) (fun vs s₂ h₂ => ⟨.cons (h₁.1.keep (keepsHeap h₂.2)) h₂.1, keepsTrans h₁.2 h₂.2⟩) fun _ _ x => x
theorem EvAll.plain {pos : Pos} {es : List Expr} {ps : List PV} (h : EvAll C n env σ es ps) : (backTo pos (starEach es env)).any (·.1) = false := by
  induction h with
  | nil => rfl
  | cons he _ hs ih => rw [hs]; simpa [backTo] using ih

/-- what calls a value -/
noncomputable def KeepOf (C : Cx) (f : Value) : Prop := ∀ h, KeepH C.g h → ∃ k, (k = Keeper.frame ∨ k = Keeper.machine ∨ k = Keeper.boundFrame) ∧ Looks C.M h (keeperOf f) k
theorem KeepOf.builtin {id : String} : KeepOf C (.builtin id) := fun _ _ => ⟨.machine, .inr (.inl rfl), .of_pure rfl⟩
theorem KeepOf.type {id : String} : KeepOf C (.type id) := fun _ _ => ⟨.machine, .inr (.inl rfl), .of_pure rfl⟩
theorem KeepOf.fn {a : Addr} {o : Obj} {fd : FuncData} (ho : C.g.get? a = some o) (hd : o.data = .func fd) : KeepOf C (.ref a) := fun h k => ⟨.frame, .inl rfl, by
  refine (Looks.ld (part := none) (k _ _ ho)).andThen ?_
  rw [hd]; exact .now⟩

theorem evalArgs_of {M : Model} {A : Around} {f : Value} {pos : Pos} {es : List Expr} {ps : List PV} {s : Shared} {Q : Args → Shared → Prop} {E : Value → Shared → Prop} (H : EvAll C n env σ es ps)
    (h : wpAny M A (spliced (backTo pos (starEach es env))) (fun vs s' => Q ⟨vs, []⟩ s') E s) : wpAny M A (evalArgs f true (backTo pos (starEach es env)) []) Q E s := by
  cases H with
  | nil => exact fun Γ p hΓ => evalArgs_nil3 (E := E) (show Q {} s from h Γ p hΓ) Γ p hΓ
  | cons he _ hs =>
    rw [hs] at h ⊢
    exact evalArgs_plain h

theorem RepTs.append {P : List Addr} {h : Heap} : ∀ {vs : List Value} {ps : List PV} {ws : List Value} {qs : List PV}, RepTs C P h vs ps → RepTs C P h ws qs → RepTs C P h (vs ++ ws) (ps ++ qs)
  | _, _, _, _, .nil, y => y
  | _, _, _, _, .cons a r, y => .cons a (r.append y)

theorem callWith_run {pos : Pos} {f : Value} {first : List Value} {es : List Expr} {fs ps : List PV} {c : PV} {A : Around} {Pout W : List Addr} {s : Shared} (K : KeepOf C f) (H : EvAll C n env σ es ps) (hc : CallR C n f (fs ++ ps) c) (hA : Rm n A) (S : StR C env Pout W σ s)
    (hf : RepTs C (Pout ++ W) s.heap first fs) : wpAny C.M A (callWith pos f first (backTo pos (starEach es env)) []) (fun v s' => RepT C (Pout ++ W) s'.heap v c ∧ Keeps s s') noE s := by
  refine callWith_of (P := KeepH C.g) (by rw [H.plain]; rfl) K (evalArgs_of H (wpAny_mono (H.run hA S) (fun vs s₁ h₁ => ?_) fun _ _ x => x))
  have S₁ := S.quiet h₁.2
  refine ⟨S₁.keep, ?_⟩
  exact wpAny_mono (hc A _ s₁ _ hA S₁.keep S₁.priv ((hf.keep (keepsHeap h₁.2)).append h₁.1)) (fun v s₂ h₂ => ⟨h₂.1, keepsTrans h₁.2 h₂.2⟩) fun _ _ x => x

theorem EvE.call {x : Str} {np pos : Pos} {fv : Value} {es : List Expr} {ps : List PV} {c : PV} (hf : EvE C n env σ (.Name x np) (.val fv)) (K : KeepOf C fv) (H : EvAll C n env σ es ps) (hc : CallR C n fv ps c) : EvE C n env σ (.Call (.Name x np) es [] pos) c := by
  intro A Pout W s hA S
  refine Call_ ?_
  refine wpAny_mono (hf A Pout W s hA S) (fun v s₁ h₁ => ?_) fun _ _ x => x
  have S₁ := S.quiet h₁.2
  rw [h₁.1.val_inv]
  exact wpAny_mono (callWith_run (fs := []) (first := []) K H hc hA S₁ .nil) (fun v s₂ h₂ => ⟨h₂.1, keepsTrans h₁.2 h₂.2⟩) fun _ _ x => x

/-- a built-in method -/
noncomputable def MethR (C : Cx) (a : PV) (name : Str) (id : String) : Prop :=
  ∀ (A : Around) (P : List Addr) (s : Shared) (v : Value) (pl : Sem Bool) (Q : Value × List Value → Shared → Prop), RepT C P s.heap v a → Q (.builtin id, [v]) s → wpAny C.M A (getMethod v name pl) Q noE s
theorem EvE.meth {o : Expr} {name : Str} {apos pos : Pos} {es : List Expr} {ps : List PV} {a c : PV} {id : String} {pl : Sem Bool} (ho : EvE C n env σ o a) (hm : MethR C a name id) (H : EvAll C n env σ es ps) (hc : CallR C n (.builtin id) (a :: ps) c)
    (he : eval (.Call (.Attribute o name apos) es [] pos) env = (do
      let ov ← eval o env
      standAt apos.atName
      let (f, first) ← holding [ov] (getMethod ov name pl)
      callWith pos f first (backTo pos (starEach es env)) [])) : EvE C n env σ (.Call (.Attribute o name apos) es [] pos) c := by
  intro A Pout W s hA S
  refine MethodCall_ ?_ he
  refine wpAny_mono (ho A Pout W s hA S) (fun v s₁ h₁ => ?_) fun _ _ x => x
  have S₁ := S.quiet h₁.2
  refine hm A _ s₁ v _ _ h₁.1 ?_
  exact wpAny_mono (callWith_run (fs := [a]) (first := [v]) KeepOf.builtin H hc hA S₁ (.cons h₁.1 .nil)) (fun v s₂ h₂ => ⟨h₂.1, keepsTrans h₁.2 h₂.2⟩) fun _ _ x => x

/-- what a [] asks -/
noncomputable def Items (C : Cx) (a : PV) : Prop := ∃ T id, typeLookup (.type T) "__getitem__" = pure (some (.builtin id)) ∧ ∀ (P : List Addr) (s : Shared) (v : Value), RepT C P s.heap v a → s.TypeIs v T
theorem Items.bytes {l : List UInt8} : Items C (.bytes l) := ⟨"bytes", _, FB.slot_bytes_getitem.lookup, fun P s v r => by obtain ⟨t, rfl⟩ := r.bytes_inv; exact typeIs_bytes _ _ _⟩
theorem Items.list {p : PV} {l : List PV} (e : p.items? = some l) : Items C p := ⟨"list", _, list_getitem_lookup, fun P s v r => by obtain ⟨a, vs, rfl, hl, _⟩ := r.items_inv e; exact hl.isList.typeIs⟩
theorem RepT.tup_inv {P : List Addr} {h : Heap} {v : Value} {l : List PV} (r : RepT C P h v (.tup l)) : ∃ a vs, v = .ref a ∧ a ∉ P ∧ IsTup h a vs.toArray ∧ RepAll C P h vs l := by
  cases r.rep rfl with
  | tup ha ht hr => exact ⟨_, _, rfl, ha, ht, hr⟩
theorem RepT.rng_inv {P : List Addr} {h : Heap} {v : Value} {lo st : Int} {k : Nat} (r : RepT C P h v (.rng lo k st)) : ∃ a, v = .ref a ∧ a ∉ P ∧ IsRng h a lo k st := by
  cases r.rep rfl with
  | rng ha ht => exact ⟨_, rfl, ha, ht⟩
theorem RepT.tab_inv {P : List Addr} {h : Heap} {v : Value} {f : Int → Option Int} (r : RepT C P h v (.tab f)) : ∃ a, v = .ref a ∧ a ∉ P ∧ IsTab C h a f := by
  cases r.rep rfl with
  | tab ha ht => exact ⟨_, rfl, ha, ht⟩
theorem RepT.slc_inv {P : List Addr} {h : Heap} {v : Value} {lo hi : Option Int} (r : RepT C P h v (.slc lo hi)) : ∃ a, v = .ref a ∧ a ∉ P ∧ IsSl h a lo hi := by
  cases r.rep rfl with
  | slc ha ht => exact ⟨_, rfl, ha, ht⟩
theorem Items.tup {l : List PV} : Items C (.tup l) := ⟨"tuple", _, slot_tuple_getitem.lookup, fun P s v r => by obtain ⟨a, vs, rfl, _, hl, _⟩ := r.tup_inv; exact hl.typeIs⟩
theorem Items.tab {f : Int → Option Int} : Items C (.tab f) := ⟨"dict", _, slot_dict_getitem.lookup, fun P s v r => by obtain ⟨a, rfl, _, hs, m, hm, _⟩ := r.tab_inv; exact hm.typeIs⟩

theorem EvE.sub {x i : Expr} {pos : Pos} {a b c : PV} (hx : EvE C n env σ x a) (hi : EvE C n env σ i b) (hI : Items C a) (ho : Op2 C n getItem a b c) (hs : ∀ o u, ∃ ops, subscripted i false o u = operate ops (getItem o u)) :
    EvE C n env σ (.Subscript x i pos) c := by
  intro A Pout W s hA S
  refine Subscript_ ?_
  refine wpAny_mono (hx A Pout W s hA S) (fun v s₁ h₁ => ?_) fun _ _ x => x
  have S₁ := S.quiet h₁.2
  refine wpAny_mono (hi A Pout W s₁ hA S₁) (fun u s₂ h₂ => ?_) fun _ _ x => x
  have S₂ := S₁.quiet h₂.2
  obtain ⟨T, id, hl, hT⟩ := hI
  obtain ⟨ops, e⟩ := hs v u
  have r := h₁.1.keep (keepsHeap h₂.2)
  exact tail_any (hT _ s₂ v r) hl (wpAny_mono (ho A _ s₂ v u hA S₂.keep S₂.priv r h₂.1) (fun x s₃ h₃ => ⟨h₃.1, keepsTrans h₁.2 (keepsTrans h₂.2 h₃.2)⟩) fun _ _ x => x) e

/-- a part of a slice -/
noncomputable def EvP (C : Cx) (n : Nat) (env : Env) (σ : Loc) (e : Option Expr) (k : Option Int) : Prop :=
  match e, k with
  | Option.none, Option.none => True
  | some e, some i => EvE C n env σ e (.int i)
  | _, _ => False
theorem EvP.run {e : Option Expr} {k : Option Int} (h : EvP C n env σ e k) {A : Around} {Pout W : List Addr} {s : Shared} (hA : Rm n A) (S : StR C env Pout W σ s) :
    wpAny C.M A (evalPart e env) (fun v s' => IsPart v k ∧ Keeps s s') noE s := by
  cases e <;> cases k <;> first | exact h.elim | skip
  · exact evalPart_none_step ⟨.none, keepsRefl s⟩
  · exact evalPart_some_step (wpAny_mono (h A Pout W s hA S) (fun v s₁ h₁ => ⟨by obtain ⟨t, rfl⟩ := h₁.1.int_inv; exact .int _ t, h₁.2⟩) fun _ _ x => x)
theorem PrivOk.fresh {P : List Addr} {h : Heap} (p : PrivOk C P h) : h.objs.size ∉ P := fun hm => by
  obtain ⟨⟨o, e⟩, _⟩ := p _ hm
  exact Nat.lt_irrefl _ (Heap.lt_size e)
theorem EvE.slice {l u : Option Expr} {pos : Pos} {lo hi : Option Int} (hl : EvP C n env σ l lo) (hu : EvP C n env σ u hi) : EvE C n env σ (.Slice l u Option.none pos) (.slc lo hi) := by
  intro A Pout W s hA S
  refine wpAny_Slice ?_
  refine wpAny_mono (hl.run hA S) (fun v s₁ h₁ => ?_) fun _ _ x => x
  have S₁ := S.quiet h₁.2
  refine wpAny_mono (hu.run hA S₁) (fun w s₂ h₂ => ?_) fun _ _ x => x
  have S₂ := S₁.quiet h₂.2
  refine evalPart_none_step ⟨.inl (.slc S₂.priv.fresh ⟨_, _, Heap.IsSliceOf.new _ _ _ _, h₁.1, h₂.1⟩), keepsTrans h₁.2 (keepsTrans h₂.2 ⟨_, _, rfl, KeepH.push _ _⟩)⟩

theorem EvAll.pures {ps : List PV} {vs : List Value} {P : List Addr} {h : Heap} (r : RepTs C P h vs ps) (hp : ps.all (fun p => !p.isOwn) = true) : RepAll C P h vs ps := by
  induction r with
  | nil => exact .nil
  | cons a _ ih =>
    simp only [List.all_cons, Bool.and_eq_true, Bool.not_eq_true'] at hp
    exact .cons (a.rep hp.1) (ih hp.2)
theorem EvE.list {es : List Expr} {ps : List PV} {pos : Pos} (H : EvAll C n env σ es ps) (hp : ps.all (fun p => !p.isOwn) = true) (hz : ps.length ≤ 1000) : EvE C n env σ (.List es pos) (.lst ps) := by
  intro A Pout W s hA S
  refine List_ (wpAny_mono (H.run hA S) (fun vs s₁ h₁ => ?_) fun _ _ x => x)
  have S₁ := S.quiet h₁.2
  have r := EvAll.pures h₁.1 hp
  have hlen := r.length
  have up := KeepH.push s₁.heap { cls := .type "list", data := .seq vs.toArray }
  refine wpAny_newObj_type ⟨.inl (.lst S₁.priv.fresh ⟨_, Heap.get?_push_size _ rfl⟩ (r.keep up)), keepsTrans h₁.2 ⟨_, _, rfl, up⟩⟩ (by show vs.toArray.size ≤ sizeLine; rw [List.size_toArray, sizeLine_eq]; omega)
theorem EvE.tuple {es : List Expr} {ps : List PV} {k : Nat} {pos : Pos} (H : EvAll C n env σ es ps) (hp : ps.all (fun p => !p.isOwn) = true) (hz : ps.length ≤ 1000) : EvE C n env σ (.Tuple es k pos) (.tup ps) := by
  intro A Pout W s hA S
  refine Tuple_ (wpAny_mono (H.run hA S) (fun vs s₁ h₁ => ?_) fun _ _ x => x)
  have S₁ := S.quiet h₁.2
  have r := EvAll.pures h₁.1 hp
  have hlen := r.length
  have up := KeepH.push s₁.heap { cls := .type "tuple", data := .seq vs.toArray }
  refine wpAny_newObj_type ⟨.inl (.tup S₁.priv.fresh (IsTup.new _ _) (r.keep up)), keepsTrans h₁.2 ⟨_, _, rfl, up⟩⟩ (by show vs.toArray.size ≤ sizeLine; rw [List.size_toArray, sizeLine_eq]; omega)
end
end Mine
end
section
open PySem PySem.W PyProof.Rows PySem.Calls
namespace Mine

inductive Out where
  | next (σ : Loc)
  | brk (σ : Loc)
  | cont (σ : Loc)
  | ret (p : PV)

/-- the state behind, the frame's own addresses grown by new ones alone -/
noncomputable def After (C : Cx) (env : Env) (Pout W : List Addr) (s : Shared) (σ : Loc) (s' : Shared) : Prop :=
  ∃ W', (∀ a ∈ W', a ∈ W ∨ s.heap.get? a = none) ∧ StR C env Pout W' σ s'
noncomputable def Leaves (C : Cx) (env : Env) (Pout W : List Addr) (s : Shared) (fl : Flow) (s' : Shared) : Out → Prop
  | .next σ => fl = .next ∧ After C env Pout W s σ s'
  | .brk σ => fl = .brk ∧ After C env Pout W s σ s'
  | .cont σ => fl = .cont ∧ After C env Pout W s σ s'
  | .ret p => ∃ v, fl = .ret v ∧ Rep C Pout s'.heap v p
noncomputable def Done (C : Cx) (env : Env) (Pout W : List Addr) (s : Shared) (Φ : Out → Prop) (fl : Flow) (s' : Shared) : Prop :=
  (∃ out, Φ out ∧ Leaves C env Pout W s fl s' out) ∧ Chg W s s'
noncomputable def ExS (C : Cx) (n : Nat) (env : Env) (σ : Loc) (st : List Stmt) (Φ : Out → Prop) : Prop :=
  ∀ A Pout W s, Rm n A → StR C env Pout W σ s → wpAny C.M A (execs st env) (Done C env Pout W s Φ) noE s
noncomputable def Ex1 (C : Cx) (n : Nat) (env : Env) (σ : Loc) (st : Stmt) (Φ : Out → Prop) : Prop :=
  ∀ A Pout W s, Rm n A → StR C env Pout W σ s → wpAny C.M A (exec st env) (Done C env Pout W s Φ) noE s
noncomputable def thenS (C : Cx) (n : Nat) (env : Env) (rest : List Stmt) (Φ : Out → Prop) : Out → Prop
  | .next σ => ExS C n env σ rest Φ
  | o => Φ o

section
variable {C : Cx} {n : Nat} {env : Env} {σ : Loc} {Φ : Out → Prop} {Pout W : List Addr} {s s₁ s₂ : Shared}

theorem growTrans {W₁ W₂ : List Addr} (g : ∀ a ∈ W₁, a ∈ W ∨ s.heap.get? a = none) (c : Chg W s s₁) (g' : ∀ a ∈ W₂, a ∈ W₁ ∨ s₁.heap.get? a = none) : ∀ a ∈ W₂, a ∈ W ∨ s.heap.get? a = none := fun a ha => by
  rcases g' a ha with h | h
  · exact g a h
  · by_cases hw : a ∈ W
    · exact .inl hw
    · right
      cases e : s.heap.get? a with
      | none => rfl
      | some o => rw [chgHeap c a o hw e] at h; cases h
theorem chgTrans {W₁ : List Addr} (c : Chg W s s₁) (g : ∀ a ∈ W₁, a ∈ W ∨ s.heap.get? a = none) (c' : Chg W₁ s₁ s₂) : Chg W s s₂ := by
  obtain ⟨h, t, rfl, k⟩ := c
  obtain ⟨h', t', rfl, k'⟩ := c'
  refine ⟨h', t', rfl, fun b o hb e => k' b o (fun hw => ?_) (k b o hb e)⟩
  rcases g b hw with q | q
  · exact hb q
  · rw [q] at e; cases e
theorem Leaves.after {W₁ : List Addr} {fl : Flow} {out : Out} (c : Chg W s s₁) (g : ∀ a ∈ W₁, a ∈ W ∨ s.heap.get? a = none) (l : Leaves C env Pout W₁ s₁ fl s₂ out) : Leaves C env Pout W s fl s₂ out := by
  cases out with
  | next σ => obtain ⟨e, W', g', S⟩ := l; exact ⟨e, W', growTrans g c g', S⟩
  | brk σ => obtain ⟨e, W', g', S⟩ := l; exact ⟨e, W', growTrans g c g', S⟩
  | cont σ => obtain ⟨e, W', g', S⟩ := l; exact ⟨e, W', growTrans g c g', S⟩
  | ret p => exact l
theorem Done.after {W₁ : List Addr} {fl : Flow} (c : Chg W s s₁) (g : ∀ a ∈ W₁, a ∈ W ∨ s.heap.get? a = none) (d : Done C env Pout W₁ s₁ Φ fl s₂) : Done C env Pout W s Φ fl s₂ := by
  obtain ⟨⟨out, h, l⟩, c'⟩ := d
  exact ⟨⟨out, h, l.after c g⟩, chgTrans c g c'⟩

theorem ExS.nil (h : Φ (.next σ)) : ExS C n env σ [] Φ := fun A Pout W s _ S =>
  wpAny_execs_nil ⟨⟨_, h, rfl, W, fun a ha => .inl ha, S⟩, chgRefl s⟩
theorem ExS.cons {st : Stmt} {rest : List Stmt} (h : Ex1 C n env σ st (thenS C n env rest Φ)) : ExS C n env σ (st :: rest) Φ := by
  intro A Pout W s hA S
  refine wpAny_execs_cons (wpAny_mono (h A Pout W s hA S) (fun fl s₁ d => ?_) fun _ _ x => x)
  obtain ⟨⟨out, ho, l⟩, c⟩ := d
  cases out with
  | next σ' =>
    obtain ⟨rfl, W', g, S'⟩ := l
    exact wpAny_mono (ho A Pout W' s₁ hA S') (fun fl s₂ d => d.after c g) fun _ _ x => x
  | brk σ' => obtain ⟨rfl, r⟩ := l; exact ⟨⟨_, ho, rfl, r⟩, c⟩
  | cont σ' => obtain ⟨rfl, r⟩ := l; exact ⟨⟨_, ho, rfl, r⟩, c⟩
  | ret p => obtain ⟨v, rfl, r⟩ := l; exact ⟨⟨_, ho, v, rfl, r⟩, c⟩
theorem ExS.mono {st : List Stmt} {Φ' : Out → Prop} (h : ExS C n env σ st Φ) (k : ∀ o, Φ o → Φ' o) : ExS C n env σ st Φ' := fun A Pout W s hA S =>
  wpAny_mono (h A Pout W s hA S) (fun fl s₁ ⟨⟨out, ho, l⟩, c⟩ => ⟨⟨out, k _ ho, l⟩, c⟩) fun _ _ x => x
theorem Ex1.mono {st : Stmt} {Φ' : Out → Prop} (h : Ex1 C n env σ st Φ) (k : ∀ o, Φ o → Φ' o) : Ex1 C n env σ st Φ' := fun A Pout W s hA S =>
  wpAny_mono (h A Pout W s hA S) (fun fl s₁ ⟨⟨out, ho, l⟩, c⟩ => ⟨⟨out, k _ ho, l⟩, c⟩) fun _ _ x => x
theorem ExS.weaken {σ' : Loc} {st : List Stmt} (h : ExS C n env σ' st Φ) (k : ∀ x p, σ'.lookup x = some p → σ.lookup x = some p) : ExS C n env σ st Φ := fun A Pout W s hA S => h A Pout W s hA (S.weaken k)

/-- names that a shorter list tells -/
theorem sub_of : ∀ {σ' : Loc}, (∀ q ∈ σ', σ.lookup q.1 = some q.2) → ∀ x p, σ'.lookup x = some p → σ.lookup x = some p
  | [], _, x, p, e => by simp at e
  | (y, q) :: r, h, x, p, e => by
    rw [List.lookup_cons] at e
    split at e
    · rename_i he
      cases e
      rw [beq_iff_eq.mp he]
      exact h (y, q) (.head _)
    · exact sub_of (fun q hq => h q (.tail _ hq)) x p e

theorem Ex1.ite {t : Expr} {body orelse : List Stmt} {pos : Pos} {b : Bool} (ht : EvB C n env σ t b) (h1 : b = true → ExS C n env σ body Φ) (h2 : b = false → ExS C n env σ orelse Φ) : Ex1 C n env σ (.If t body orelse pos) Φ := by
  intro A Pout W s hA S
  refine wpAny_If (wpAny_mono (ht A Pout W s hA S) (fun c s₁ h => ?_) fun _ _ x => x)
  obtain ⟨rfl, K⟩ := h
  have S₁ := S.quiet K
  cases c with
  | true => exact wpAny_mono (h1 rfl A Pout W s₁ hA S₁) (fun fl s₂ d => d.after (keepsChg K) fun a ha => .inl ha) fun _ _ x => x
  | false => exact wpAny_mono (h2 rfl A Pout W s₁ hA S₁) (fun fl s₂ d => d.after (keepsChg K) fun a ha => .inl ha) fun _ _ x => x

theorem Rep.out {h : Heap} {v : Value} {p : PV} (r : Rep C (Pout ++ W) h v p) : Rep C Pout h v p := r.move fun b o hb e => ⟨fun hm => hb (List.mem_append_left _ hm), e⟩
theorem Ex1.ret {e : Expr} {pos : Pos} {p : PV} (he : EvE C n env σ e p) (ho : p.isOwn = false) (h : Φ (.ret p)) : Ex1 C n env σ (.Return (some e) pos) Φ := by
  intro A Pout W s hA S
  exact wpAny_Return_some (wpAny_mono (he A Pout W s hA S) (fun v s₁ k => ⟨⟨_, h, v, rfl, (k.1.rep ho).out⟩, keepsChg k.2⟩) fun _ _ x => x)
theorem Ex1.retOwn {x : Str} {np pos : Pos} {l : List PV} (hs : σ.lookup x = some (.own l)) (hk : env.scope.kind = .function) (h : Φ (.ret (.lst l))) (hd : (x == ("__debug__" : Str)) = false := by decide) : Ex1 C n env σ (.Return (some (.Name x np)) pos) Φ := by
  intro A Pout W s hA S
  obtain ⟨ad, hv, _⟩ := S.vars
  obtain ⟨hv, hw, vs, hl, hr⟩ := hv x _ hs
  have r : Rep C Pout s.heap (.ref (ad x)) (.lst l) := .lst (S.disj _ hw) hl (hr.move fun b o hb e => ⟨fun hm => hb (List.mem_append_left _ hm), e⟩)
  refine wpAny_Return_some ?_
  rcases hv with ⟨hl, m, hn, hm⟩ | ⟨hc, c, hl, hi⟩
  · exact wpAny_Name (wpAny_loadName_local hk hl hn hm ⟨⟨_, h, _, rfl, r⟩, chgRefl s⟩) hd
  · exact wpAny_Name (wpAny_loadName_cell hk hc hl hi ⟨⟨_, h, _, rfl, r⟩, chgRefl s⟩) hd

theorem nsList {h : Heap} {a : Addr} {m : Str → Option Value} {its : Array Value} (x : h.Ns a m) (y : h.PlainList a its) : False := by
  obtain ⟨o, es, ep, e, d, _⟩ := x
  obtain ⟨k, f⟩ := y
  rw [e] at f; cases f; cases d
theorem nsCell {h : Heap} {a : Addr} {m : Str → Option Value} {v : Option Value} (x : h.Ns a m) (y : h.IsCell a v) : False := by
  obtain ⟨o, es, ep, e, d, _⟩ := x
  obtain ⟨o', f, d'⟩ := y
  rw [e] at f; cases f; rw [d] at d'; cases d'
theorem cellList {h : Heap} {a : Addr} {v : Option Value} {its : Array Value} (x : h.IsCell a v) (y : h.PlainList a its) : False := by
  obtain ⟨o, e, d⟩ := x
  obtain ⟨k, f⟩ := y
  rw [e] at f; cases f; cases d
theorem nsSame {h : Heap} {a : Addr} {m m' : Str → Option Value} (x : h.Ns a m) (y : h.Ns a m') : m = m' := by
  obtain ⟨o, es, ep, e, d, _, q⟩ := x
  obtain ⟨o', es', ep', e', d', _, q'⟩ := y
  rw [e] at e'; cases e'; rw [d] at d'; cases d'
  funext z
  rw [← q z, ← q' z]

/-- one object of the frame's own is changed -/
theorem StR.change (S : StR C env Pout W σ s) {σ' : Loc} {d : Addr} {h' : Heap} {tk : Nat} (hs : Heap.SameBut d s.heap h') (hd : d ∈ W) (there : ∃ o, h'.get? d = some o)
    (ns' : ∃ m, h'.Ns env.locals m) (cells' : env.func.isSome = true → ∀ n c, env.cells.lookup n = some c → ∃ v, h'.IsCell c v)
    (vars : ∃ ad : Str → Addr, (∀ x p, σ'.lookup x = some p → SlotIs C env (Pout ++ W) W h' ad x p) ∧ ∀ x y l l', σ'.lookup x = some (.own l) → σ'.lookup y = some (.own l') → ad x = ad y → x = y) :
    StR C env Pout W σ' { s with heap := h', toks := tk } where
  keep := fun b o e => (hs.2 b (fun q => by subst q; rw [S.new _ (List.mem_append_right _ hd)] at e; cases e)).trans (S.keep b o e)
  there := fun a ha => by
    by_cases e : a = d
    · subst e; exact there
    · obtain ⟨o, q⟩ := S.there a ha
      exact ⟨o, (hs.2 a e).trans q⟩
  new := S.new
  disj := S.disj
  loc := S.loc
  cellP := S.cellP
  cellW := fun hf n c e => ⟨(S.cellW hf n c e).1, cells' hf n c e⟩
  apart := S.apart
  ns := ns'
  vars := vars
theorem sameBut_chg {d : Addr} {h' : Heap} {tk : Nat} (hs : Heap.SameBut d s.heap h') (hd : d ∈ W) : Chg W s { s with heap := h', toks := tk } :=
  ⟨h', tk, rfl, fun b o hb e => (hs.2 b fun q => hb (q ▸ hd)).trans e⟩
theorem Rep.sameBut {P : List Addr} {d : Addr} {h h' : Heap} {v : Value} {p : PV} (hs : Heap.SameBut d h h') (hd : d ∈ P) (r : Rep C P h v p) : Rep C P h' v p := r.move fun b o hb e => ⟨hb, (hs.2 b fun q => hb (q ▸ hd)).trans e⟩
theorem RepAll.sameBut {P : List Addr} {d : Addr} {h h' : Heap} {v : List Value} {p : List PV} (hs : Heap.SameBut d h h') (hd : d ∈ P) (r : RepAll C P h v p) : RepAll C P h' v p := r.move fun b o hb e => ⟨hb, (hs.2 b fun q => hb (q ▸ hd)).trans e⟩

theorem lookup_cons_ne {α : Type} {x y : Str} {p : α} {l : List (Str × α)} (h : y ≠ x) : List.lookup y ((x, p) :: l) = l.lookup y := by
  rw [List.lookup_cons, beq_false_of_ne h]
theorem lookup_cons_eq {α : Type} {x : Str} {p : α} {l : List (Str × α)} : List.lookup x ((x, p) :: l) = some p := by
  rw [List.lookup_cons, beq_self_eq_true]

/-- a name is stored: a value that is no list of the frame's own -/
theorem StR.store (S : StR C env Pout W σ s) {x : Str} {v : Value} {p : PV} {A : Around} {Q : Unit → Shared → Prop} {E : Value → Shared → Prop} (r : Rep C (Pout ++ W) s.heap v p)
    (hk : env.scope.kind = .function) (hx : env.kindOf x = some .local ∨ (env.func.isSome = true ∧ env.kindOf x = some .cell ∧ (env.cells.lookup x).isSome = true))
    (h : ∀ s', StR C env Pout W ((x, p) :: σ) s' → Chg W s s' → Q () s') : wpAny C.M A (storeName env x v) Q E s := by
  obtain ⟨ad, hv, hd⟩ := S.vars
  have hno : p.isOwn = false := by cases r <;> rfl
  have distinct : ∀ y z l l', ((x, p) :: σ).lookup y = some (.own l) → ((x, p) :: σ).lookup z = some (.own l') → ad y = ad z → y = z := by
    intro y z l l' e e'
    by_cases hy : y = x
    · subst hy; rw [lookup_cons_eq] at e; cases e; cases hno
    · by_cases hz : z = x
      · subst hz; rw [lookup_cons_eq] at e'; cases e'; cases hno
      · rw [lookup_cons_ne hy] at e; rw [lookup_cons_ne hz] at e'; exact hd y z l l' e e'
  have mk : ∀ {h' : Heap} {d : Addr}, Heap.SameBut d s.heap h' → d ∈ W → VarIs env h' x v → (∀ y u, y ≠ x → VarIs env s.heap y u → VarIs env h' y u) → (∀ a its, s.heap.PlainList a its → a ≠ d) →
      ∀ y q, ((x, p) :: σ).lookup y = some q → SlotIs C env (Pout ++ W) W h' ad y q := by
    intro h' d hs hdW hxv hyv hnl y q e
    have hdP : d ∈ Pout ++ W := List.mem_append_right _ hdW
    by_cases hy : y = x
    · subst hy
      rw [lookup_cons_eq] at e; cases e
      cases p <;> first | exact (Bool.noConfusion hno) | exact ⟨v, hxv, r.sameBut hs hdP⟩
    · rw [lookup_cons_ne hy] at e
      have q' := hv y q e
      cases q with
      | own l =>
        obtain ⟨a1, a2, vs, a3, a4⟩ := q'
        obtain ⟨k, a3'⟩ := id a3
        exact ⟨hyv y _ hy a1, a2, vs, ⟨k, (hs.2 _ (hnl _ _ a3)).trans a3'⟩, a4.sameBut hs hdP⟩
      | _ => obtain ⟨u, a1, a2⟩ := q'; exact ⟨u, hyv y _ hy a1, a2.sameBut hs hdP⟩
  rcases hx with hx | ⟨hf, hx, hc⟩
  · obtain ⟨m, hm⟩ := S.ns
    refine wpAny_storeName_local hx hm (fun h' hn hs => ?_) (by rw [hk]; rfl)
    refine h _ (S.change hs S.loc (let ⟨o, _, _, e, _⟩ := hn; ⟨o, e⟩) ⟨_, hn⟩ (fun hf n c e => ?_) ⟨ad, mk hs S.loc (.inl ⟨hx, _, hn, by simp⟩) (fun y u hy q => ?_) (fun a its hl e => nsList hm (e ▸ hl)), distinct⟩) (sameBut_chg hs S.loc)
    · obtain ⟨_, v', hi⟩ := S.cellW hf n c e
      exact ⟨v', hi.sameBut hs fun q => nsCell hm (q ▸ hi)⟩
    · rcases q with ⟨hl, m', hn', hm'⟩ | ⟨hl, c, hc, hi⟩
      · cases nsSame hm hn'
        exact .inl ⟨hl, _, hn, by simp [hy, hm']⟩
      · exact .inr ⟨hl, c, hc, hi.sameBut hs fun q => nsCell hm (q ▸ hi)⟩
  · obtain ⟨c, hc⟩ := Option.isSome_iff_exists.mp hc
    obtain ⟨hcW, v₀, hi⟩ := S.cellW hf x c hc
    obtain ⟨m, hm⟩ := S.ns
    have hLc : env.locals ≠ c := fun q => nsCell hm (q ▸ hi)
    refine wpAny_storeName_cell hk hx hc hi fun h' hi' hs => ?_
    have hm' : h'.Ns env.locals m := hm.sameBut hs hLc
    have other : ∀ n' c', env.cells.lookup n' = some c' → n' ≠ x → c' ≠ c := fun n' c' e hn q => hn (S.apart _ _ _ e (q ▸ hc))
    refine h { s with heap := h', toks := s.toks } (S.change hs hcW (let ⟨o, e, _⟩ := hi'; ⟨o, e⟩) ⟨_, hm'⟩ (fun hf n' c' e => ?_) ⟨ad, mk hs hcW (.inr ⟨hx, c, hc, hi'⟩) (fun y u hy q => ?_) (fun a its hl e => cellList hi (e ▸ hl)), distinct⟩) (sameBut_chg hs hcW)
    · by_cases hn : n' = x
      · subst hn; rw [hc] at e; cases e; exact ⟨_, hi'⟩
      · obtain ⟨_, v', hi''⟩ := S.cellW hf n' c' e
        exact ⟨v', hi''.sameBut hs (other n' c' e hn)⟩
    · rcases q with ⟨hl, m', hn', hm''⟩ | ⟨hl, c', hc', hi''⟩
      · exact .inl ⟨hl, m', hn'.sameBut hs hLc, hm''⟩
      · exact .inr ⟨hl, c', hc', hi''.sameBut hs (other y c' hc' hy)⟩

/-- a name that the frame stores -/
noncomputable def Stored (env : Env) (x : Str) : Prop := env.scope.kind = .function ∧ (env.kindOf x = some .local ∨ (env.func.isSome = true ∧ env.kindOf x = some .cell ∧ (env.cells.lookup x).isSome = true))
theorem Ex1.assign {x : Str} {np pos : Pos} {e : Expr} {p : PV} (he : EvE C n env σ e p) (ho : p.isOwn = false) (hx : Stored env x) (h : Φ (.next ((x, p) :: σ)))
    (hs : swapsWith e (some (.Name x np)) pos.line env = pure false) : Ex1 C n env σ (.Assign [.Name x np] e pos) Φ := by
  intro A Pout W s hA S
  refine wpAny_Assign_Name (wpAny_mono (he A Pout W s hA S) (fun v s₁ k => ?_) fun _ _ x => x) hs
  have S₁ := S.quiet k.2
  exact S₁.store (k.1.rep ho) hx.1 hx.2 fun s₂ S₂ c => Done.after (keepsChg k.2) (fun a ha => .inl ha) ⟨⟨_, h, rfl, W, fun a ha => .inl ha, S₂⟩, c⟩
end
end Mine
end
section
open PySem PySem.W PyProof.Rows PySem.Calls
namespace Mine
section
variable {C : Cx} {n : Nat} {env : Env} {σ : Loc} {Φ : Out → Prop} {Pout W : List Addr} {s s₁ s₂ : Shared}

/-- more addresses are private: none of them stood before -/
theorem StR.grow (S : StR C env Pout W σ s) {P' W' : List Addr} {s' : Shared} (K : Keeps s s') (hP : ∀ a ∈ Pout, a ∈ P') (hW : ∀ a ∈ W, a ∈ W') (new : ∀ a ∈ P' ++ W', a ∈ Pout ++ W ∨ (s.heap.get? a = none ∧ ∃ o, s'.heap.get? a = some o))
    (hd : ∀ a ∈ W', a ∉ P') : StR C env P' W' σ s' := by
  have S' := S.quiet K
  have k := keepsHeap K
  have gn : ∀ a, s.heap.get? a = none → C.g.get? a = none := fun a e => by
    cases q : C.g.get? a with
    | none => rfl
    | some o => rw [S.keep _ _ q] at e; cases e
  have old : ∀ b o, b ∉ Pout ++ W → s.heap.get? b = some o → b ∉ P' ++ W' ∧ s'.heap.get? b = some o := fun b o hb e => ⟨(fun hm => by
    rcases new b hm with q | q
    · exact hb q
    · rw [q.1] at e; cases e), k b o e⟩
  obtain ⟨ad, hv, hdis⟩ := S.vars
  refine ⟨S'.keep, fun a ha => ?_, fun a ha => ?_, hd, hW _ S.loc, fun m c e => ?_, fun hf m c e => ?_, S.apart, S'.ns, ad, fun x p e => ?_, hdis⟩
  · rcases new a ha with q | ⟨_, q⟩
    · exact S'.there a q
    · exact q
  · rcases new a ha with q | ⟨q, _⟩
    · exact S.new a q
    · exact gn a q
  · rcases List.mem_append.mp (S.cellP m c e) with q | q
    · exact List.mem_append_left _ (hP _ q)
    · exact List.mem_append_right _ (hW _ q)
  · obtain ⟨a, b⟩ := S'.cellW hf m c e
    exact ⟨hW _ a, b⟩
  · have q := hv x p e
    cases p with
    | own l =>
      obtain ⟨a1, a2, vs, ⟨m, a3⟩, a4⟩ := q
      exact ⟨a1.keep k, hW _ a2, vs, ⟨m, k _ _ a3⟩, a4.move old⟩
    | _ => obtain ⟨u, a1, a2⟩ := q; exact ⟨u, a1.keep k, a2.move old⟩

/-- what is written at outer private addresses is not seen -/
theorem StR.outer (S : StR C env Pout W σ s) {s' : Shared} {I : Addr} (hI : I ∈ Pout) (hn : ∀ m, ¬ s.heap.Ns I m) (hl : ∀ v, ¬ s.heap.IsCell I v) (c : Chg [I] s s') (there : ∃ o, s'.heap.get? I = some o) : StR C env Pout W σ s' := by
  have k : ∀ b o, b ≠ I → s.heap.get? b = some o → s'.heap.get? b = some o := fun b o hb e => chgHeap c b o (by simpa using hb) e
  have hIW : I ∉ W := fun hm => S.disj I hm hI
  have old : ∀ b o, b ∉ Pout ++ W → s.heap.get? b = some o → b ∉ Pout ++ W ∧ s'.heap.get? b = some o := fun b o hb e => ⟨hb, k b o (fun q => hb (q ▸ List.mem_append_left _ hI)) e⟩
  obtain ⟨ad, hv, hdis⟩ := S.vars
  obtain ⟨m, hm⟩ := S.ns
  have nsk : ∀ m', s.heap.Ns env.locals m' → s'.heap.Ns env.locals m' := fun m' h => h.at' fun o e => k _ o (fun q => hn m' (q ▸ h)) e
  have ck : ∀ c' v', s.heap.IsCell c' v' → s'.heap.IsCell c' v' := fun c' v' ⟨o, e, d⟩ => ⟨o, k _ o (fun q => hl v' (q ▸ ⟨o, e, d⟩)) e, d⟩
  have vk : ∀ x v, VarIs env s.heap x v → VarIs env s'.heap x v := fun x v h => by
    rcases h with ⟨a, m', h1, h2⟩ | ⟨a, c', h1, h2⟩
    · exact .inl ⟨a, m', nsk m' h1, h2⟩
    · exact .inr ⟨a, c', h1, ck _ _ h2⟩
  refine ⟨fun b o e => k b o (fun q => ?_) (S.keep b o e), fun a ha => ?_, S.new, S.disj, S.loc, S.cellP, fun hf m c e => ?_, S.apart, ⟨m, nsk m hm⟩, ad, fun x p e => ?_, hdis⟩
  · subst q; rw [S.new _ (List.mem_append_left _ hI)] at e; cases e
  · by_cases q : a = I
    · subst q; exact there
    · obtain ⟨o, e⟩ := S.there a ha
      exact ⟨o, k a o q e⟩
  · obtain ⟨a, v, h⟩ := S.cellW hf m c e
    exact ⟨a, v, ck _ _ h⟩
  · have q := hv x p e
    cases p with
    | own l =>
      obtain ⟨a1, a2, vs, ⟨m, a3⟩, a4⟩ := q
      exact ⟨vk _ _ a1, a2, vs, ⟨m, k _ _ (fun q => hIW (q ▸ a2)) a3⟩, a4.move old⟩
    | _ => obtain ⟨u, a1, a2⟩ := q; exact ⟨u, vk _ _ a1, a2.move old⟩

/-- an own list at `ad x` is set anew -/
theorem StR.setOwn (S : StR C env Pout W σ s) {ad : Str → Addr} (hv : ∀ x p, σ.lookup x = some p → SlotIs C env (Pout ++ W) W s.heap ad x p) (hd : ∀ x y l l', σ.lookup x = some (.own l) → σ.lookup y = some (.own l') → ad x = ad y → x = y)
    {x : Str} {l l' : List PV} {vs : List Value} {h' : Heap} {tk : Nat} (hx : σ.lookup x = some (.own l)) (hs : Heap.SameBut (ad x) s.heap h') (hl : h'.PlainList (ad x) vs.toArray) (hr : RepAll C (Pout ++ W) s.heap vs l') : StR C env Pout W ((x, .own l') :: σ) { s with heap := h', toks := tk } := by
  obtain ⟨x1, x2, vs₀, x3, _⟩ := hv x _ hx
  obtain ⟨m, hm⟩ := S.ns
  have hne : env.locals ≠ ad x := fun q => nsList hm (q ▸ x3)
  have hP : ad x ∈ Pout ++ W := List.mem_append_right _ x2
  have vk : ∀ y v, VarIs env s.heap y v → VarIs env h' y v := fun y v h => by
    rcases h with ⟨a, m', h1, h2⟩ | ⟨a, c', h1, h2⟩
    · exact .inl ⟨a, m', h1.sameBut hs hne, h2⟩
    · exact .inr ⟨a, c', h1, h2.sameBut hs fun q => cellList h2 (q ▸ x3)⟩
  refine S.change hs x2 (let ⟨k, e⟩ := hl; ⟨_, e⟩) ⟨m, hm.sameBut hs hne⟩ (fun hf n c e => ?_) ⟨ad, fun y p e => ?_, fun y z a b e e' q => ?_⟩
  · obtain ⟨_, v, h⟩ := S.cellW hf n c e
    exact ⟨v, h.sameBut hs fun q => cellList h (q ▸ x3)⟩
  · by_cases hy : y = x
    · subst hy
      rw [lookup_cons_eq] at e; cases e
      exact ⟨vk _ _ x1, x2, vs, hl, hr.sameBut hs hP⟩
    · rw [lookup_cons_ne hy] at e
      have q := hv y p e
      cases p with
      | own l₂ =>
        obtain ⟨a1, a2, ws, ⟨k, a3⟩, a4⟩ := q
        exact ⟨vk _ _ a1, a2, ws, ⟨k, (hs.2 _ fun q => hy (hd y x _ _ e hx q)).trans a3⟩, a4.sameBut hs hP⟩
      | _ => obtain ⟨u, a1, a2⟩ := q; exact ⟨u, vk _ _ a1, a2.sameBut hs hP⟩
  · by_cases hy : y = x
    · by_cases hz : z = x
      · rw [hy, hz]
      · subst hy; rw [lookup_cons_ne hz] at e'; exact hd _ _ _ _ hx e' q
    · by_cases hz : z = x
      · subst hz; rw [lookup_cons_ne hy] at e; exact hd _ _ _ _ e hx q
      · rw [lookup_cons_ne hy] at e; rw [lookup_cons_ne hz] at e'; exact hd _ _ _ _ e e' q

theorem SlotIs.grow {P P' W' : List Addr} {h h' : Heap} {ad : Str → Addr} {x : Str} {p : PV} (q : SlotIs C env P W h ad x p) (k : KeepH h h') (hW : ∀ a ∈ W, a ∈ W') (old : ∀ b o, b ∉ P → h.get? b = some o → b ∉ P' ∧ h'.get? b = some o) : SlotIs C env P' W' h' ad x p := by
  cases p with
  | own l =>
    obtain ⟨a1, a2, vs, ⟨m, a3⟩, a4⟩ := q
    exact ⟨a1.keep k, hW _ a2, vs, ⟨m, k _ _ a3⟩, a4.move old⟩
  | _ => obtain ⟨u, a1, a2⟩ := q; exact ⟨u, a1.keep k, a2.move old⟩

theorem interactive_no (hk : env.scope.kind = .function) : interactive env = false := by
  unfold interactive; rw [hk]; rfl

/-- a name is stored: a list that is the frame's own from now on -/
theorem StR.storeOwn (S : StR C env Pout W σ s) {ad : Str → Addr} (hv : ∀ x p, σ.lookup x = some p → SlotIs C env (Pout ++ W) W s.heap ad x p) (hd : ∀ x y l l', σ.lookup x = some (.own l) → σ.lookup y = some (.own l') → ad x = ad y → x = y)
    {x : Str} {a : Addr} {l : List PV} {vs : List Value} {A : Around} {Q : Unit → Shared → Prop} {E : Value → Shared → Prop} (ha : a ∈ W) (hne : ∀ y l, σ.lookup y = some (.own l) → ad y ≠ a) (hl : s.heap.PlainList a vs.toArray) (hr : RepAll C (Pout ++ W) s.heap vs l)
    (hk : env.scope.kind = .function) (hx : env.kindOf x = some .local) (h : ∀ s', StR C env Pout W ((x, .own l) :: σ) s' → Chg W s s' → Q () s') : wpAny C.M A (storeName env x (.ref a)) Q E s := by
  obtain ⟨m, hm⟩ := S.ns
  refine wpAny_storeName_local hx hm (fun h' hn hs => ?_) (by rw [hk]; rfl)
  have hP : env.locals ∈ Pout ++ W := List.mem_append_right _ S.loc
  have lk : ∀ b its, s.heap.PlainList b its → h'.PlainList b its := fun b its q => by
    obtain ⟨k, e⟩ := id q
    exact ⟨k, (hs.2 b fun z => nsList hm (z ▸ q)).trans e⟩
  have vk : ∀ y v, y ≠ x → VarIs env s.heap y v → VarIs env h' y v := fun y v hy q => by
    rcases q with ⟨hl, m', hn', hm'⟩ | ⟨hl, c, hc, hi⟩
    · cases nsSame hm hn'
      exact .inl ⟨hl, _, hn, by simp [hy, hm']⟩
    · exact .inr ⟨hl, c, hc, hi.sameBut hs fun q => nsCell hm (q ▸ hi)⟩
  refine h _ (S.change hs S.loc (let ⟨o, _, _, e, _⟩ := hn; ⟨o, e⟩) ⟨_, hn⟩ (fun hf n c e => ?_) ⟨fun y => if y = x then a else ad y, fun y p e => ?_, fun y z l₁ l₂ e e' q => ?_⟩) (sameBut_chg hs S.loc)
  · obtain ⟨_, v', hi⟩ := S.cellW hf n c e
    exact ⟨v', hi.sameBut hs fun q => nsCell hm (q ▸ hi)⟩
  · by_cases hy : y = x
    · subst hy
      rw [lookup_cons_eq] at e; cases e
      show VarIs env h' y (.ref (if y = y then a else ad y)) ∧ (if y = y then a else ad y) ∈ W ∧ ∃ vs, h'.PlainList (if y = y then a else ad y) vs.toArray ∧ RepAll C (Pout ++ W) h' vs l
      rw [if_pos rfl]
      exact ⟨.inl ⟨hx, _, hn, by simp⟩, ha, vs, lk _ _ hl, hr.sameBut hs hP⟩
    · rw [lookup_cons_ne hy] at e
      have q := hv y p e
      cases p with
      | own l₁ =>
        obtain ⟨a1, a2, ws, a3, a4⟩ := q
        show VarIs env h' y (.ref (if y = x then a else ad y)) ∧ (if y = x then a else ad y) ∈ W ∧ ∃ vs, h'.PlainList (if y = x then a else ad y) vs.toArray ∧ RepAll C (Pout ++ W) h' vs l₁
        rw [if_neg hy]
        exact ⟨vk _ _ hy a1, a2, ws, lk _ _ a3, a4.sameBut hs hP⟩
      | _ => obtain ⟨u, a1, a2⟩ := q; exact ⟨u, vk _ _ hy a1, a2.sameBut hs hP⟩
  · by_cases hy : y = x
    · by_cases hz : z = x
      · rw [hy, hz]
      · subst hy
        simp only [if_true, if_neg hz] at q
        rw [lookup_cons_ne hz] at e'
        exact absurd q.symm (hne _ _ e')
    · by_cases hz : z = x
      · subst hz
        simp only [if_true, if_neg hy] at q
        rw [lookup_cons_ne hy] at e
        exact absurd q (hne _ _ e)
      · simp only [if_neg hy, if_neg hz] at q
        rw [lookup_cons_ne hy] at e; rw [lookup_cons_ne hz] at e'; exact hd _ _ _ _ e e' q

/-- x = [] -/
theorem Ex1.newOwn {x : Str} {np lp pos : Pos} (hk : env.scope.kind = .function) (hx : env.kindOf x = some .local) (h : Φ (.next ((x, .own []) :: σ))) : Ex1 C n env σ (.Assign [.Name x np] (.List [] lp) pos) Φ := by
  intro A Pout W s hA S
  refine wpAny_Assign_Name (List_ (spliced_nil (wpAny_newObj_type ?_ (by show (0 : Nat) ≤ _; exact Nat.zero_le _)))) rfl
  have K : Keeps s { s with heap := s.heap.push { cls := .type "list", data := .seq #[] } } := ⟨_, _, rfl, KeepH.push _ _⟩
  have fresh : s.heap.get? s.heap.objs.size = none := Heap.get?_none_of_le (Nat.le_refl _)
  have hPn : s.heap.objs.size ∉ Pout ++ W := S.priv.fresh
  have S₁ : StR C env Pout (s.heap.objs.size :: W) σ { s with heap := s.heap.push { cls := .type "list", data := .seq #[] } } := S.grow K (fun _ h => h) (fun _ h => .tail _ h) (fun a ha => by
      rcases List.mem_append.mp ha with q | q
      · exact .inl (List.mem_append_left _ q)
      · rcases List.mem_cons.mp q with rfl | q
        · exact .inr ⟨fresh, _, Heap.get?_push_size _ rfl⟩
        · exact .inl (List.mem_append_right _ q)) (fun a ha => by
      rcases List.mem_cons.mp ha with rfl | q
      · exact fun hm => hPn (List.mem_append_left _ hm)
      · exact S.disj a q)
  obtain ⟨ad, hv, hd⟩ := S.vars
  refine S₁.storeOwn (ad := ad) (a := s.heap.objs.size) (vs := []) (fun y p e => (hv y p e).grow (keepsHeap K) (fun _ h => .tail _ h) fun b o hb e => ⟨fun hm => ?_, keepsHeap K b o e⟩) hd (.head _) (fun y l e q => ?_) ⟨0, Heap.get?_push_size _ rfl⟩ .nil hk hx fun s' S' c => ?_
  · rcases List.mem_append.mp hm with q | q
    · exact hb (List.mem_append_left _ q)
    · rcases List.mem_cons.mp q with rfl | q
      · rw [fresh] at e; cases e
      · exact hb (List.mem_append_right _ q)
  · obtain ⟨_, _, vs, ⟨k, e'⟩, _⟩ := hv y _ e
    rw [q, fresh] at e'; cases e'
  · exact Done.after (keepsChg K) (fun a ha => by
      rcases List.mem_cons.mp ha with rfl | q
      · exact .inr fresh
      · exact .inl q) ⟨⟨_, h, rfl, _, fun a ha => .inl ha, S'⟩, c⟩

/-- an expression that is left alone, its value None -/
theorem exprStmt {e : Expr} {pos : Pos} {Q : Flow → Shared → Prop} {A : Around} (hk : env.scope.kind = .function) (h : wpAny C.M A (eval e env) (fun v s' => v = .none ∧ Q .next s') noE s) (hs : swapsWith e none pos.line env = pure false) : wpAny C.M A (exec (.Expr e pos) env) Q noE s :=
  wpAny_Expr (wpAny_mono h (fun v s' h' => by obtain ⟨rfl, h'⟩ := h'; exact h') fun _ _ x => x) (interactive_no hk) hs

theorem mapSeq_plain (its more : Array Value) (m : Nat) : Obj.mapSeq (fun x => x ++ more) { cls := .type "list", data := .seq its m } = { cls := .type "list", data := .seq (its ++ more) (if (its ++ more).size == its.size then m else m + 1) } := rfl

theorem Ex1.append {x : Str} {np apos cpos pos : Pos} {e : Expr} {p : PV} {l : List PV} {pl : Sem Bool} (hs : σ.lookup x = some (.own l)) (he : EvE C n env σ e p) (ho : p.isOwn = false) (hz : l.length ≤ 16000000) (hk : env.scope.kind = .function) (h : Φ (.next ((x, .own (l ++ [p])) :: σ)))
    (hsw : swapsWith (.Call (.Attribute (.Name x np) "append" apos) [e] [] cpos) none pos.line env = pure false)
    (hev : eval (.Call (.Attribute (.Name x np) "append" apos) [e] [] cpos) env = (do
      let ov ← eval (.Name x np) env
      standAt apos.atName
      let (f, first) ← holding [ov] (getMethod ov "append" pl)
      callWith cpos f first (backTo cpos (starEach [e] env)) []))
    (hse : ∀ rest, starEach (e :: rest) env = (false, eval e env) :: starEach rest env) (hd : (x == ("__debug__" : Str)) = false := by decide) : Ex1 C n env σ (.Expr (.Call (.Attribute (.Name x np) "append" apos) [e] [] cpos) pos) Φ := by
  intro A Pout W s hA S
  refine exprStmt hk (MethodCall_ ?_ hev) hsw
  obtain ⟨ad, hv, hdis⟩ := S.vars
  obtain ⟨x1, x2, vs, ⟨k, x3⟩, x4⟩ := hv x _ hs
  have go : wpAny C.M A (getMethod (.ref (ad x)) "append" pl) (fun fx s₂ => wpAny C.M A (callWith cpos fx.1 fx.2 (backTo cpos (starEach [e] env)) []) (fun v s' => v = .none ∧ Done C env Pout W s Φ .next s') noE s₂) noE s := by
    refine getMethod_list_append x3 rfl rfl ?_
    refine callWith_method1 ?_ (hse []) rfl
    rw [hse]
    refine spliced_cons (wpAny_mono (he A Pout W s hA S) (fun v s₁ h₁ => spliced_nil ?_) fun _ _ x => x)
    have S₁ := S.quiet h₁.2
    have kk := keepsHeap h₁.2
    refine wpAny_list_append_plain ⟨k, kk _ _ x3⟩ (fun h' hl' hs' => ⟨rfl, ?_⟩) (by rw [sizeLine_eq, List.size_toArray, x4.length]; omega)
    have S₂ : StR C env Pout W ((x, .own (l ++ [p])) :: σ) { s₁ with heap := h', toks := s₁.toks } := S₁.setOwn (ad := ad) (vs := vs ++ [v]) (fun y q e => (hv y q e).keep kk) hdis hs hs' (by simpa using hl') ((x4.keep kk).append (.cons (h₁.1.rep ho) .nil))
    exact Done.after (keepsChg h₁.2) (fun a ha => .inl ha) ⟨⟨_, h, rfl, W, fun a ha => .inl ha, S₂⟩, sameBut_chg hs' x2⟩
  rcases x1 with ⟨hl, m, hn, hm⟩ | ⟨hc, c, hl, hi⟩
  · exact wpAny_Name (wpAny_loadName_local hk hl hn hm go) hd
  · exact wpAny_Name (wpAny_loadName_cell hk hc hl hi go) hd

theorem getMethod_extend {M : Model} {A : Around} {E : Value → Shared → Prop} {l : Addr} {its : Array Value} {pl : Sem Bool} {Q : Value × List Value → Shared → Prop} (ho : s.heap.PlainList l its) (h : Q (.builtin "list.extend", [.ref l]) s) : wpAny M A (getMethod (.ref l) "extend" pl) Q E s := by
  obtain ⟨k, e⟩ := ho
  exact getMethod_builtin ⟨_, e, rfl⟩ F.plainAttrs_list F.slot_list_extend F.type_list_extend (fun a q => by cases q; exact ⟨_, e, rfl⟩) h

theorem Ex1.extend {x : Str} {np apos cpos pos : Pos} {e : Expr} {l l₂ : List PV} {pl : Sem Bool} (hs : σ.lookup x = some (.own l)) (he : EvE C n env σ e (.lst l₂)) (hz : l.length + l₂.length ≤ 16000000) (hk : env.scope.kind = .function) (h : Φ (.next ((x, .own (l ++ l₂)) :: σ)))
    (hsw : swapsWith (.Call (.Attribute (.Name x np) "extend" apos) [e] [] cpos) none pos.line env = pure false)
    (hev : eval (.Call (.Attribute (.Name x np) "extend" apos) [e] [] cpos) env = (do
      let ov ← eval (.Name x np) env
      standAt apos.atName
      let (f, first) ← holding [ov] (getMethod ov "extend" pl)
      callWith cpos f first (backTo cpos (starEach [e] env)) []))
    (hse : ∀ rest, starEach (e :: rest) env = (false, eval e env) :: starEach rest env) (hd : (x == ("__debug__" : Str)) = false := by decide) : Ex1 C n env σ (.Expr (.Call (.Attribute (.Name x np) "extend" apos) [e] [] cpos) pos) Φ := by
  intro A Pout W s hA S
  refine exprStmt hk (MethodCall_ ?_ hev) hsw
  obtain ⟨ad, hv, hdis⟩ := S.vars
  obtain ⟨x1, x2, vs, ⟨k, x3⟩, x4⟩ := hv x _ hs
  have go : wpAny C.M A (getMethod (.ref (ad x)) "extend" pl) (fun fx s₂ => wpAny C.M A (callWith cpos fx.1 fx.2 (backTo cpos (starEach [e] env)) []) (fun v s' => v = .none ∧ Done C env Pout W s Φ .next s') noE s₂) noE s := by
    refine getMethod_extend ⟨k, x3⟩ ?_
    refine callWith_method1 ?_ (hse []) rfl
    rw [hse]
    refine spliced_cons (wpAny_mono (he A Pout W s hA S) (fun v s₁ h₁ => spliced_nil ?_) fun _ _ x => x)
    have S₁ := S.quiet h₁.2
    have kk := keepsHeap h₁.2
    obtain ⟨b, ws, rfl, ⟨k₂, hb⟩, hr₂⟩ := h₁.1.items_inv rfl
    have hz' : vs.toArray.size + ws.toArray.size ≤ sizeLine := by rw [sizeLine_eq, List.size_toArray, List.size_toArray, x4.length, hr₂.length]; omega
    refine call_meets F.slot_list_extend ⟨_, kk _ _ x3, rfl⟩ F.entry_list_extend (F.args_list_extend_2 _ _) (AutoSeq1.list_extend_list_list_0 (ad x) vs.toArray k b ws.toArray k₂ (extend_door hz') (Nat.le_trans (Nat.le_add_right _ _) hz')) ⟨kk _ _ x3, hb, rfl, ?_⟩
    have hs' : Heap.SameBut (ad x) s₁.heap (s₁.heap.update (ad x) (Obj.mapSeq fun x => x ++ ws.toArray)) := Heap.SameBut.update ..
    have hl' : (s₁.heap.update (ad x) (Obj.mapSeq fun x => x ++ ws.toArray)).PlainList (ad x) (vs ++ ws).toArray := ⟨_, by
      rw [Heap.get?_update_self _ (kk _ _ x3) (by rw [mapSeq_plain]; rfl), mapSeq_plain]
      simp only [List.append_toArray]
      rfl⟩
    have S₂ : StR C env Pout W ((x, .own (l ++ l₂)) :: σ) { s₁ with heap := s₁.heap.update (ad x) (Obj.mapSeq fun x => x ++ ws.toArray), toks := s₁.toks } := S₁.setOwn (ad := ad) (vs := vs ++ ws) (fun y q e => (hv y q e).keep kk) hdis hs hs' hl' ((x4.keep kk).append hr₂)
    exact Done.after (keepsChg h₁.2) (fun a ha => .inl ha) ⟨⟨_, h, rfl, W, fun a ha => .inl ha, S₂⟩, sameBut_chg hs' x2⟩
  rcases x1 with ⟨hl, m, hn, hm⟩ | ⟨hc, c, hl, hi⟩
  · exact wpAny_Name (wpAny_loadName_local hk hl hn hm go) hd
  · exact wpAny_Name (wpAny_loadName_cell hk hc hl hi go) hd
end
end Mine
end
section
open PySem PySem.W PyProof.Rows PySem.Calls
namespace Mine
section
variable {C : Cx} {n : Nat} {env : Env} {σ : Loc} {Φ : Out → Prop} {Pout W : List Addr} {s s₁ s₂ : Shared}

/-- what a for walks over: a value's items -/
noncomputable def IterR (C : Cx) (n : Nat) (a : PV) (xs : List PV) : Prop :=
  ∀ (A : Around) (P : List Addr) (s : Shared) (v : Value) (Q : Value → Shared → Prop), Rm n A → PrivOk C P s.heap → RepT C P s.heap v a →
    (∀ (I : Addr) (s₁ : Shared) (fp : List Addr) (Pv : Nat → Value → Prop) (St : Nat → Heap → Prop), Keeps s s₁ → s.heap.get? I = Option.none → (∀ i h, St i h → (∃ o, h.get? I = some o) ∧ (∀ m, ¬ h.Ns I m) ∧ ∀ v, ¬ h.IsCell I v) →
      Walks C.prog C.w A I fp [I] xs.length Pv St → St 0 s₁.heap → (∀ b ∈ fp, b = I ∨ (b ∉ P ∧ ∃ o, s.heap.get? b = some o)) → (∀ i v, Pv i v → ∃ x, xs[i]? = some x ∧ Rep C P s.heap v x) →
      (∀ i v target (Q' : Unit → Shared → Prop) s', Pv i v → St (i + 1) s'.heap → Q' () s' → wpAny C.M A (letOwnedTupleGo target (.ref I) v) Q' noE s') → Q (.ref I) s₁) →
    wpAny C.M A (pyIter v) Q noE s

/-- a target takes a value -/
noncomputable def AsgR (C : Cx) (n : Nat) (env : Env) (t : Expr) (x : PV) (ext : Loc) : Prop :=
  ∀ (σ : Loc) (A : Around) (Pout W : List Addr) (s : Shared) (v : Value) (Q : Unit → Shared → Prop), Rm n A → StR C env Pout W σ s → Rep C (Pout ++ W) s.heap v x →
    (∀ s', StR C env Pout W (ext ++ σ) s' → Chg W s s' → Q () s') → wpAny C.M A (assign t env v) Q noE s
theorem AsgR.name {x : Str} {np : Pos} {p : PV} (hx : Stored env x) : AsgR C n env (.Name x np) p [(x, p)] := by
  intro σ A Pout W s v Q _ S r h
  exact wpAny_assign_Name (S.store r hx.1 hx.2 h)

/-- the names of a tuple's target, one by one -/
inductive AsgAll (C : Cx) (n : Nat) (env : Env) : List Expr → List PV → Loc → Prop
  | nil : AsgAll C n env [] [] []
  | cons {x : Str} {np : Pos} {es : List Expr} {p : PV} {ps : List PV} {ext : Loc} : Stored env x → AsgAll C n env es ps ext → AsgAll C n env (.Name x np :: es) (p :: ps) (ext ++ [(x, p)])
theorem AsgAll.run {es : List Expr} {ps : List PV} {ext : Loc} (h : AsgAll C n env es ps ext) : ∀ {σ : Loc} {A : Around} {Pout W : List Addr} {s : Shared} {vs : List Value} {Q : Unit → Shared → Prop}, StR C env Pout W σ s → RepAll C (Pout ++ W) s.heap vs ps →
    (∀ s', StR C env Pout W (ext ++ σ) s' → Chg W s s' → Q () s') → wpAny C.M A (assignInOrder ((assignEach es env).map (·.2)) vs) Q noE s := by
  induction h with
  | nil => intro σ A Pout W s vs Q S r h; cases r; exact wpAny_pure (h s S (chgRefl s))
  | @cons x np es p ps ext hx _ ih =>
    intro σ A Pout W s vs Q S r h
    cases r with
    | @cons v vs _ _ r0 rs =>
      show wpAny C.M A (do holding vs (assign (.Name x np) env v); assignInOrder ((assignEach es env).map (·.2)) vs) Q noE s
      refine wpAny_bind (wpAny_holding (wpAny_assign_Name (S.store r0 hx.1 hx.2 fun s₁ S₁ c => ?_)))
      have rs' : RepAll C (Pout ++ W) s₁.heap vs ps := rs.move fun b o hb e => ⟨hb, chgHeap c b o (fun q => hb (List.mem_append_right _ q)) e⟩
      refine ih S₁ rs' fun s₂ S₂ c₂ => h s₂ (by rw [List.append_assoc]; exact S₂) (chgTrans c (fun a ha => .inl ha) c₂)
theorem AsgAll.facts {es : List Expr} {ps : List PV} {ext : Loc} (h : AsgAll C n env es ps ext) : (assignEach es env).length = ps.length ∧ (assignEach es env).findIdx? (·.1) = none := by
  induction h with
  | nil => exact ⟨rfl, rfl⟩
  | @cons x np es p ps ext _ _ ih =>
    have e : assignEach (.Name x np :: es) env = (false, assign (.Name x np) env) :: assignEach es env := rfl
    rw [e]
    exact ⟨by simp [ih.1], by simp [List.findIdx?_cons, ih.2]⟩
theorem extBut_keep {h h' : Heap} (x : Heap.ExtBut h.objs.size h h') : KeepH h h' := fun b o e => x b o (Nat.ne_of_lt (Heap.lt_size e)) e
theorem AsgR.tup {es : List Expr} {ps : List PV} {ext : Loc} {k : Nat} {pos : Pos} (h : AsgAll C n env es ps ext) : AsgR C n env (.Tuple es k pos) (.tup ps) ext := by
  intro σ A Pout W s v Q hA S r hQ
  cases r with
  | @tup a vs l ha ht hr =>
    rw [assign_Tuple]
    refine wpAny_bind (wpAny_standAt ?_)
    have hlen := hr.length
    refine unpack_tuple hA.hh ht (by rw [h.facts.1, List.size_toArray, hlen]) h.facts.2 fun h' hx => ?_
    have K : Keeps s { s with heap := h' } := ⟨h', s.toks, rfl, extBut_keep hx⟩
    exact h.run (S.quiet K) (hr.keep (extBut_keep hx)) fun s₂ S₂ c => hQ s₂ S₂ (chgTrans (keepsChg K) (fun a ha => .inl ha) c)

/-- how a turn ends -/
noncomputable def turnS (J : Loc → Prop) (Φ : Out → Prop) : Out → Prop
  | .next σ => J σ
  | .cont σ => J σ
  | .brk σ => Φ (.next σ)
  | .ret p => Φ (.ret p)

/-- an outer private address is given up -/
theorem StR.drop {I : Addr} (S : StR C env (I :: Pout) W σ s) {s' : Shared} (hc : ∀ n c, env.cells.lookup n = some c → c ≠ I) (hn : ∀ m, ¬ s.heap.Ns I m) (hl : ∀ v, ¬ s.heap.IsCell I v) (c : Chg [I] s s') (hIP : I ∉ Pout ++ W) : StR C env Pout W σ s' := by
  have k : ∀ b o, b ≠ I → s.heap.get? b = some o → s'.heap.get? b = some o := fun b o hb e => chgHeap c b o (by simpa using hb) e
  have old : ∀ b o, b ∉ (I :: Pout) ++ W → s.heap.get? b = some o → b ∉ Pout ++ W ∧ s'.heap.get? b = some o := fun b o hb e => ⟨fun hm => hb (List.mem_cons_of_mem _ hm), k b o (fun q => hb (q ▸ List.mem_cons_self)) e⟩
  obtain ⟨ad, hv, hdis⟩ := S.vars
  obtain ⟨m, hm⟩ := S.ns
  have nsk : ∀ m', s.heap.Ns env.locals m' → s'.heap.Ns env.locals m' := fun m' h => h.at' fun o e => k _ o (fun q => hn m' (q ▸ h)) e
  have ck : ∀ c' v', s.heap.IsCell c' v' → s'.heap.IsCell c' v' := fun c' v' ⟨o, e, d⟩ => ⟨o, k _ o (fun q => hl v' (q ▸ ⟨o, e, d⟩)) e, d⟩
  have vk : ∀ x v, VarIs env s.heap x v → VarIs env s'.heap x v := fun x v h => by
    rcases h with ⟨a, m', h1, h2⟩ | ⟨a, c', h1, h2⟩
    · exact .inl ⟨a, m', nsk m' h1, h2⟩
    · exact .inr ⟨a, c', h1, ck _ _ h2⟩
  refine ⟨fun b o e => k b o (fun q => ?_) (S.keep b o e), fun a ha => ?_, fun a ha => S.new a (List.mem_cons_of_mem _ ha), fun a ha hm => S.disj a ha (.tail _ hm), S.loc, fun m c e => ?_, fun hf m c e => ?_, S.apart, ⟨m, nsk m hm⟩, ad, fun x p e => ?_, hdis⟩
  · subst q; rw [S.new _ List.mem_cons_self] at e; cases e
  · obtain ⟨o, e⟩ := S.there a (List.mem_cons_of_mem _ ha)
    exact ⟨o, k a o (fun q => hIP (q ▸ ha)) e⟩
  · rcases List.mem_cons.mp (S.cellP m c e) with q | q
    · exact absurd q (hc m c e)
    · exact q
  · obtain ⟨a, v, h⟩ := S.cellW hf m c e
    exact ⟨a, v, ck _ _ h⟩
  · have q := hv x p e
    cases p with
    | own l =>
      obtain ⟨a1, a2, vs, ⟨m, a3⟩, a4⟩ := q
      exact ⟨vk _ _ a1, a2, vs, ⟨m, k _ _ (fun q => hIP (List.mem_append_right _ (q ▸ a2))) a3⟩, a4.move old⟩
    | _ => obtain ⟨u, a1, a2⟩ := q; exact ⟨u, vk _ _ a1, a2.move old⟩

/-- a for over a value's items, what holds between its turns -/
theorem Ex1.forL {target iter : Expr} {body : List Stmt} {pos : Pos} {a : PV} {xs : List PV} (J : Nat → Loc → Prop) (ext : PV → Loc) (he : EvE C n env σ iter a) (hit : IterR C n a xs) (hasg : ∀ x ∈ xs, AsgR C n env target x (ext x)) (h0 : J 0 σ)
    (turn : ∀ i x τ, xs[i]? = some x → J i τ → ExS C n env (ext x ++ τ) body (turnS (J (i + 1)) Φ)) (done : ∀ τ, J xs.length τ → Φ (.next τ))
    (hs : ∀ x, foldedSetIterable iter env x = pure x) : Ex1 C n env σ (.For target iter body [] pos) Φ := by
  intro A Pout W s hA S
  refine wpAny_For (wpAny_mono (he A Pout W s hA S) (fun v s₀ h₀ => ?_) fun _ _ x => x) hs
  have S₀ := S.quiet h₀.2
  refine hit A _ s₀ v _ hA S₀.priv h₀.1 fun I s₁ fp Pv St K₁ hI hSt Wk st0 hfp hP hgo => ?_
  -- the iterator is private from here on
  have hIP : I ∉ Pout ++ W := fun hm => by obtain ⟨⟨o, e⟩, _⟩ := S₀.priv _ hm; rw [hI] at e; cases e
  have S₁ : StR C env (I :: Pout) W σ s₁ := S₀.grow K₁ (fun _ h => .tail _ h) (fun _ h => h) (fun a ha => by
      rcases List.mem_cons.mp ha with rfl | q
      · exact .inr ⟨hI, (hSt 0 _ st0).1⟩
      · exact .inl q) (fun a ha hm => by
      rcases List.mem_cons.mp hm with rfl | q
      · exact hIP (List.mem_append_right _ ha)
      · exact S.disj a ha q)
  have K01 := keepsTrans h₀.2 K₁
  have hIs : s.heap.get? I = none := by
    cases q : s.heap.get? I with
    | none => rfl
    | some o => rw [keepsHeap h₀.2 _ _ q] at hI; cases hI
  refine codeAny_mono (R := fun r s' => ∃ fl, r = .ok fl ∧ Done C env Pout W s Φ fl s') ?_ (fun r s' hr => by obtain ⟨fl, rfl, d⟩ := hr; exact d)
  -- an end of the loop is an end of the statement
  have outS : ∀ {s₂ : Shared} {W₂ : List Addr} {τ₂ : Loc}, StR C env (I :: Pout) W₂ τ₂ s₂ → StR C env Pout W₂ τ₂ s₂ := fun {s₂ W₂ τ₂} S₂ => by
    obtain ⟨ad, hv, hd⟩ := S₂.vars
    have up : ∀ b o, b ∉ (I :: Pout) ++ W₂ → s₂.heap.get? b = some o → b ∉ Pout ++ W₂ ∧ s₂.heap.get? b = some o := fun b o hb e => ⟨fun hm => hb (List.mem_cons_of_mem _ hm), e⟩
    exact { S₂ with
      there := fun a ha => S₂.there a (List.mem_cons_of_mem _ ha)
      new := fun a ha => S₂.new a (List.mem_cons_of_mem _ ha)
      disj := fun a ha hm => S₂.disj a ha (.tail _ hm)
      cellP := fun m c e => by
        rcases List.mem_cons.mp (S₂.cellP m c e) with q | q
        · subst q
          exact absurd (S.cellP m c e) hIP
        · exact q
      vars := ⟨ad, fun x p e => (hv x p e).grow (KeepH.refl _) (fun _ h => h) up, hd⟩ }
  have chgOut : ∀ {s₂ : Shared}, Chg (I :: W) s₁ s₂ → Chg W s s₂ := fun c => by
    have c2 := chgTrans (keepsChg (W := W) K01) (W₁ := I :: W) (fun a ha => by
      rcases List.mem_cons.mp ha with rfl | q
      · exact .inr hIs
      · exact .inl q) c
    exact c2
  have newOut : ∀ {W₂ : List Addr}, (∀ a ∈ W₂, a ∈ W ∨ s₁.heap.get? a = none) → ∀ a ∈ W₂, a ∈ W ∨ s.heap.get? a = none := fun g a ha => by
    rcases g a ha with q | q
    · exact .inl q
    · right
      cases q' : s.heap.get? a with
      | none => rfl
      | some o => rw [keepsHeap K01 _ _ q'] at q; cases q
  refine codeAny_forLoop_any (fun k s' => ∃ i τ W', k = xs.length + 1 - i ∧ i ≤ xs.length ∧ J i τ ∧ St i s'.heap ∧ StR C env (I :: Pout) W' τ s' ∧ (∀ a ∈ W', a ∈ W ∨ s₁.heap.get? a = none) ∧ Chg (I :: W) s₁ s') ?_ (xs.length + 1)
    ⟨0, σ, W, rfl, Nat.zero_le _, h0, st0, S₁, fun a ha => .inl ha, chgRefl s₁⟩
  rintro k s' ⟨i, τ, W', rfl, hi, hJ, hst, S', g, c⟩
  by_cases hlt : i < xs.length
  · refine anyE (Wk.item i _ _ _ hlt hst fun v h₁ tk₁ hPv hst₁ hk₁ => ?_)
    obtain ⟨x, hx, rx⟩ := hP i v hPv
    have c₁ : Chg [I] s' { s' with heap := h₁, toks := tk₁ } := ⟨h₁, tk₁, rfl, hk₁⟩
    have S₂ : StR C env (I :: Pout) W' τ { s' with heap := h₁, toks := tk₁ } := S'.outer (.head _) (hSt i _ hst).2.1 (hSt i _ hst).2.2 c₁ (hSt _ _ hst₁).1
    have c₂ : Chg (I :: W) s₁ { s' with heap := h₁, toks := tk₁ } := chgTrans c (W₁ := [I]) (fun a ha => .inl (by rw [List.mem_singleton.mp ha]; exact .head _)) c₁
    have now : ∀ b o, b ∉ Pout ++ W → s₀.heap.get? b = some o → b ∉ (I :: Pout) ++ W' ∧ h₁.get? b = some o := fun b o hb e => by
      have hbI : b ≠ I := fun q => by subst q; rw [hI] at e; cases e
      have e₁ := keepsHeap K₁ b o e
      refine ⟨fun hm => ?_, ?_⟩
      · rcases List.mem_cons.mp hm with q | q
        · exact hbI q
        · rcases List.mem_append.mp q with q | q
          · exact hb (List.mem_append_left _ q)
          · rcases g b q with q | q
            · exact hb (List.mem_append_right _ q)
            · rw [q] at e₁; cases e₁
      · refine chgHeap c₂ b o (fun hm => ?_) e₁
        rcases List.mem_cons.mp hm with q | q
        · exact hbI q
        · exact hb (List.mem_append_right _ q)
    have rnow : Rep C ((I :: Pout) ++ W') h₁ v x := rx.move now
    refine anyE (hgo i v target _ _ hPv hst₁ ?_)
    refine anyE (hasg x (List.mem_of_getElem? hx) τ A (I :: Pout) W' _ v _ hA S₂ rnow fun s₃ S₃ c₃ => ?_)
    refine anyE (wpAny_mono (turn i x τ hx hJ A (I :: Pout) W' s₃ hA S₃) (fun fl s₄ d => ?_) fun _ _ x => x)
    obtain ⟨⟨out, ho, l⟩, c₄⟩ := d
    have gW : ∀ a ∈ W', a ∈ I :: W ∨ s₁.heap.get? a = none := fun a ha => (g a ha).imp (fun q => .tail _ q) id
    have c₅ : Chg (I :: W) s₁ s₄ := chgTrans (chgTrans c₂ gW c₃) gW c₄
    have c₃₄ := chgTrans c₃ (fun a ha => .inl ha) c₄
    have grow2 : ∀ {W₂ : List Addr}, (∀ a ∈ W₂, a ∈ W' ∨ s₃.heap.get? a = none) → ∀ a ∈ W₂, a ∈ W ∨ s₁.heap.get? a = none := fun g' a ha => by
      have q := growTrans gW (chgTrans c₂ gW c₃) g' a ha
      rcases q with q | q
      · rcases List.mem_cons.mp q with q | q
        · subst q
          rcases g' a ha with r | r
          · exact g a r
          · have c' := chgTrans c₂ gW c₃
            exact absurd (S₃.there a (.head _)) (fun ⟨o, e⟩ => by rw [r] at e; cases e)
        · exact .inl q
      · exact .inr q
    have stAt : St (i + 1) s₄.heap := Wk.frame _ _ _ hst₁ fun b hb o e => by
      refine chgHeap c₃₄ b o (fun hm => ?_) e
      rcases hfp b hb with q | ⟨q, o', e'⟩
      · subst q
        exact S'.disj b hm (.head _)
      · exact (now b o' q e').1 (List.mem_append_right _ hm)
    cases out with
    | next τ₂ =>
      obtain ⟨rfl, W₂, g₂, S₄⟩ := l
      exact ⟨xs.length + 1 - (i + 1), by omega, i + 1, τ₂, W₂, rfl, hlt, ho, stAt, S₄, grow2 g₂, c₅⟩
    | cont τ₂ =>
      obtain ⟨rfl, W₂, g₂, S₄⟩ := l
      exact ⟨xs.length + 1 - (i + 1), by omega, i + 1, τ₂, W₂, rfl, hlt, ho, stAt, S₄, grow2 g₂, c₅⟩
    | brk τ₂ =>
      obtain ⟨rfl, W₂, g₂, S₄⟩ := l
      exact ⟨.next, rfl, ⟨_, ho, rfl, W₂, newOut (grow2 g₂), outS S₄⟩, chgOut c₅⟩
    | ret p =>
      obtain ⟨v, rfl, r⟩ := l
      exact ⟨.ret v, rfl, ⟨_, ho, v, rfl, r.move fun b o hb e => ⟨fun hm => hb (.tail _ hm), e⟩⟩, chgOut c₅⟩
  · have hin : i = xs.length := by omega
    subst hin
    refine anyE (Wk.done _ _ _ hst fun h₁ tk₁ hk₁ => wpAny_execs_nil ?_)
    have c₁ : Chg [I] s' { s' with heap := h₁, toks := tk₁ } := ⟨h₁, tk₁, rfl, hk₁⟩
    have hIP' : I ∉ Pout ++ W' := fun hm => by
      rcases List.mem_append.mp hm with q | q
      · exact hIP (List.mem_append_left _ q)
      · exact S'.disj I q (.head _)
    have S₂ : StR C env Pout W' τ { s' with heap := h₁, toks := tk₁ } := S'.drop (fun m c e q => hIP (q ▸ S.cellP m c e)) (hSt _ _ hst).2.1 (hSt _ _ hst).2.2 c₁ hIP'
    have c₂ : Chg (I :: W) s₁ { s' with heap := h₁, toks := tk₁ } := chgTrans c (W₁ := [I]) (fun a ha => .inl (by rw [List.mem_singleton.mp ha]; exact .head _)) c₁
    exact ⟨.next, rfl, ⟨_, done τ hJ, rfl, W', newOut g, S₂⟩, chgOut c₂⟩

/-- a while: a number that every turn lowers -/
theorem Ex1.whileL {test : Expr} {body : List Stmt} {pos : Pos} (J : Nat → Loc → Prop) (k₀ : Nat) (h0 : J k₀ σ)
    (turn : ∀ k τ, J k τ → ∃ b, EvB C n env τ test b ∧ (b = true → ExS C n env τ body (turnS (fun τ' => ∃ m, m < k ∧ J m τ') Φ)) ∧ (b = false → Φ (.next τ))) : Ex1 C n env σ (.While test body [] pos) Φ := by
  intro A Pout W s hA S
  refine wpAny_While (codeAny_mono (R := fun r s' => ∃ fl, r = .ok fl ∧ Done C env Pout W s Φ fl s') ?_ (fun r s' hr => by obtain ⟨fl, rfl, d⟩ := hr; exact d))
  refine codeAny_whileLoop (fun k s' => ∃ τ W', J k τ ∧ StR C env Pout W' τ s' ∧ (∀ a ∈ W', a ∈ W ∨ s.heap.get? a = none) ∧ Chg W s s') ?_ k₀ ⟨σ, W, h0, S, fun a ha => .inl ha, chgRefl s⟩
  rintro k s' ⟨τ, W', hJ, S', g, c⟩
  obtain ⟨b, hb, h1, h2⟩ := turn k τ hJ
  refine anyE (wpAny_mono (hb A Pout W' s' hA S') (fun d s₁ h => ?_) fun _ _ x => x)
  obtain ⟨rfl, K⟩ := h
  have S₁ := S'.quiet K
  have c₁ : Chg W s s₁ := chgTrans c g (keepsChg K)
  cases d with
  | false => exact wpAny_execs_nil ⟨.next, rfl, ⟨_, h2 rfl, rfl, W', g, S₁⟩, c₁⟩
  | true =>
    refine anyE (wpAny_mono (h1 rfl A Pout W' s₁ hA S₁) (fun fl s₂ d => ?_) fun _ _ x => x)
    obtain ⟨⟨out, ho, l⟩, c₂⟩ := d
    have c₃ := chgTrans c₁ g c₂
    cases out with
    | next τ₂ =>
      obtain ⟨rfl, W₂, g₂, S₂⟩ := l
      obtain ⟨m, hm, hJ₂⟩ := ho
      exact ⟨m, hm, τ₂, W₂, hJ₂, S₂, growTrans g c₁ g₂, c₃⟩
    | cont τ₂ =>
      obtain ⟨rfl, W₂, g₂, S₂⟩ := l
      obtain ⟨m, hm, hJ₂⟩ := ho
      exact ⟨m, hm, τ₂, W₂, hJ₂, S₂, growTrans g c₁ g₂, c₃⟩
    | brk τ₂ =>
      obtain ⟨rfl, W₂, g₂, S₂⟩ := l
      exact ⟨.next, rfl, ⟨_, ho, rfl, W₂, growTrans g c₁ g₂, S₂⟩, c₃⟩
    | ret p =>
      obtain ⟨v, rfl, r⟩ := l
      exact ⟨.ret v, rfl, ⟨_, ho, v, rfl, r⟩, c₃⟩
theorem Ex1.brk {pos : Pos} (h : Φ (.brk σ)) : Ex1 C n env σ (.Break pos) Φ := by
  intro A Pout W s hA S
  exact wpAny_Break ⟨⟨_, h, rfl, W, fun a ha => .inl ha, S⟩, chgRefl s⟩
end
end Mine
end
section
open PySem PySem.W PyProof.Rows PySem.Calls
namespace Mine
section
variable {C : Cx} {n : Nat} {env : Env} {σ : Loc} {Φ : Out → Prop} {Pout W : List Addr} {s s₁ s₂ : Shared}

theorem bindL_not {k : Str → Option NameKind} {x : Str} : ∀ {b : List (Str × Value)} {m : Str → Option Value}, x ∉ b.map (·.1) → bindL k b m x = m x
  | [], _, _ => rfl
  | (y, v) :: r, m, h => by
    have hy : x ≠ y := fun q => h (q ▸ List.mem_cons_self)
    have hr : x ∉ r.map (·.1) := fun q => h (.tail _ q)
    unfold bindL
    rw [bindL_not hr]
    split <;> simp [hy]
theorem bindC_not {k : Str → Option NameKind} {x : Str} : ∀ {b : List (Str × Value)} {m : Str → Option Value}, x ∉ b.map (·.1) → bindC k b m x = m x
  | [], _, _ => rfl
  | (y, v) :: r, m, h => by
    have hy : x ≠ y := fun q => h (q ▸ List.mem_cons_self)
    have hr : x ∉ r.map (·.1) := fun q => h (.tail _ q)
    unfold bindC
    rw [bindC_not hr]
    split <;> simp [hy]
theorem bindL_get {k : Str → Option NameKind} {x : Str} {v : Value} (hk : k x = some .local) : ∀ {b : List (Str × Value)} {m : Str → Option Value}, (b.map (·.1)).Nodup → (x, v) ∈ b → bindL k b m x = some v
  | (y, u) :: r, m, hn, h => by
    simp only [List.map_cons, List.nodup_cons] at hn
    unfold bindL
    rcases List.mem_cons.mp h with e | h
    · cases e
      rw [bindL_not hn.1, if_pos hk]; simp
    · exact bindL_get hk hn.2 h
theorem bindC_get {k : Str → Option NameKind} {x : Str} {v : Value} (hk : k x = some .cell) : ∀ {b : List (Str × Value)} {m : Str → Option Value}, (b.map (·.1)).Nodup → (x, v) ∈ b → bindC k b m x = some v
  | (y, u) :: r, m, hn, h => by
    simp only [List.map_cons, List.nodup_cons] at hn
    unfold bindC
    rcases List.mem_cons.mp h with e | h
    · cases e
      rw [bindC_not hn.1, if_neg (by rw [hk]; decide)]; simp
    · exact bindC_get hk hn.2 h
theorem lookup_zip {α : Type} {x : Str} {p : α} : ∀ {xs : List Str} {ps : List α}, (xs.zip ps).lookup x = some p → ∃ i : Nat, xs[i]? = some x ∧ ps[i]? = some p
  | [], _, h => by simp at h
  | _ :: _, [], h => by simp at h
  | y :: xs, q :: ps, h => by
    rw [List.zip_cons_cons, List.lookup_cons] at h
    split at h
    · rename_i e
      cases h
      exact ⟨0, by rw [beq_iff_eq.mp e]; rfl, rfl⟩
    · obtain ⟨i, a, b⟩ := lookup_zip h
      exact ⟨i + 1, by simpa using a, by simpa using b⟩
theorem map_zip_sub {α : Type} : ∀ {xs : List Str} {ps : List α}, ((xs.zip ps).map (·.1)).Sublist xs
  | [], _ => by simp
  | _ :: _, [] => by simp
  | y :: xs, q :: ps => by
    rw [List.zip_cons_cons, List.map_cons]
    exact .cons_cons y map_zip_sub
theorem RepTs.length {P : List Addr} {h : Heap} : ∀ {vs : List Value} {ps : List PV}, RepTs C P h vs ps → vs.length = ps.length
  | _, _, .nil => rfl
  | _, _, .cons _ r => congrArg (· + 1) r.length

noncomputable abbrev fenv (fd : FuncData) (L fa : Addr) : Env := callEnvC fd L fa

theorem CallR.fn {fa : Addr} {o : Obj} {fd : FuncData} {body : List Stmt} {args dp : List PV} {dv : List Value} {params : List Str} {c : PV}
    (K : C.Ok) (ho : C.g.get? fa = some o) (hd : o.data = .func fd) (hcd : C.g.CodeRec fd.code fd.qualname) (hb : fd.body = .stmts body) (hcl : fd.closure = [])
    (hbind : ∀ s vs, vs.length = args.length → KeepH C.g s.heap → BindsTo s fd ⟨vs, []⟩ (params.zip (vs ++ dv))) (hdv : ∀ P h, RepAll C P h dv dp) (hargs : args.all (fun p => !p.isOwn) = true) (hnd : params.Nodup)
    (hcn : ((cellsFrom 0 fd.scope.names []).map (·.1)).Nodup) (hpk : ∀ x ∈ params, fd.scope.names.lookup x = some .local ∨ (fd.scope.names.lookup x = some .cell ∧ ∀ L, ((cellsFrom L fd.scope.names []).lookup x).isSome = true))
    (hco : fd.scope.isCoroutine = false) (hgen : fd.scope.isGenerator = false) (hk : fd.scope.kind = .function)
    (hbody : ∀ L, ExS C n (fenv fd L fa) (params.zip (args ++ dp)) body (fun o => o = .ret c)) (hc : c.isOwn = false) : CallR C (n + 1) (.ref fa) args c := by
  intro A P s vs hA hg hP hr
  refine wpAny_call (codeAny_call_function (by have := hA.2.1; omega) (hg _ _ ho) hd hco hgen hb (hcd.keeps hg) (hbind s vs hr.length hg _ _ _ _ ?_))
  rw [hcl]
  have hzip : ((params.zip (vs ++ dv)).map (·.1)).Nodup := map_zip_sub.nodup hnd
  refine wpAny_newFunctionEnv_cells hk (fun x hx => ?_) fun env he s' x => ?_
  · have := hpk x.1 (List.of_mem_zip hx).1
    exact this.imp id fun q => ⟨q.1, q.2 _⟩
  · subst he
    have kk := x.toInCall.keep
    refine ⟨(K.nolimit.keeps hg).keeps kk, codeAny_func ?_⟩
    obtain ⟨h₁, tk, e, hk₁⟩ := x.done
    have rargs := EvAll.pures hr hargs
    have rall : RepAll C P s'.heap (vs ++ dv) (args ++ dp) := (rargs.keep kk).append (hdv _ _)
    -- the frame's own addresses
    have fresh : ∀ a, s.heap.objs.size ≤ a → s.heap.get? a = none := fun a h => Heap.get?_none_of_le h
    have gnone : ∀ a, s.heap.get? a = none → C.g.get? a = none := fun a e => by
      cases q : C.g.get? a with
      | none => rfl
      | some o => rw [hg _ _ q] at e; cases e
    have Wge : ∀ a ∈ s.heap.objs.size :: (cellsFrom (s.heap.objs.size + 1) fd.scope.names []).map (·.2), s.heap.objs.size ≤ a := fun a ha => by
      rcases List.mem_cons.mp ha with rfl | q
      · exact Nat.le_refl _
      · obtain ⟨y, hy, rfl⟩ := List.mem_map.mp q
        exact Nat.le_of_lt (x.above y.1 y.2 hy)
    have cellAt : ∀ m c, (cellsFrom (s.heap.objs.size + 1) fd.scope.names []).lookup m = some c → s'.heap.IsCell c (bindC (fenv fd s.heap.objs.size fa).kindOf (params.zip (vs ++ dv)) (fun _ => none) m) := fun m c e => x.cell m c e
    have cellIn : ∀ m c, (m, c) ∈ cellsFrom (s.heap.objs.size + 1) fd.scope.names [] → ∃ v, s'.heap.IsCell c v := fun m c hm => by
      exact ⟨_, cellAt m c (lookup_of_mem_nodup (cellsFrom_names fd.scope.names 0 (s.heap.objs.size + 1) [] [] rfl ▸ hcn) hm)⟩
    have S : StR C (fenv fd s.heap.objs.size fa) P (s.heap.objs.size :: (cellsFrom (s.heap.objs.size + 1) fd.scope.names []).map (·.2)) (params.zip (args ++ dp)) s' := by
      refine ⟨hg.trans kk, fun a ha => ?_, fun a ha => ?_, fun a ha hm => ?_, List.mem_cons_self, fun m c e => ?_, fun _ m c e => ?_, fun m m' c e e' => ?_, ⟨_, x.toInCall.ns⟩, fun _ => 0, fun y p e => ?_, fun y z l l' e => ?_⟩
      · rcases List.mem_append.mp ha with q | q
        · obtain ⟨⟨o, e⟩, _⟩ := hP a q
          exact ⟨o, kk _ _ e⟩
        · rcases List.mem_cons.mp q with rfl | q
          · obtain ⟨o, _, _, e, _⟩ := x.toInCall.ns
            exact ⟨o, e⟩
          · obtain ⟨y, hy, rfl⟩ := List.mem_map.mp q
            obtain ⟨v, o, e, _⟩ := cellIn y.1 y.2 hy
            exact ⟨o, e⟩
      · rcases List.mem_append.mp ha with q | q
        · exact (hP a q).2
        · exact gnone a (fresh a (Wge a q))
      · obtain ⟨⟨o, e⟩, _⟩ := hP a hm
        rw [fresh a (Wge a ha)] at e; cases e
      · exact List.mem_append_right _ (.tail _ (List.mem_map.mpr ⟨(m, c), mem_of_lookup e, rfl⟩))
      · exact ⟨.tail _ (List.mem_map.mpr ⟨(m, c), mem_of_lookup e, rfl⟩), _, cellAt m c e⟩
      · exact name_of_addr x.apart (mem_of_lookup e) (mem_of_lookup e')
      · obtain ⟨i, hi, hp⟩ := lookup_zip e
        obtain ⟨v, hv, hr'⟩ := rall.get hp
        have hm : (y, v) ∈ params.zip (vs ++ dv) := by
          have : (params.zip (vs ++ dv))[i]? = some (y, v) := by rw [List.getElem?_zip_eq_some]; exact ⟨hi, hv⟩
          exact List.mem_of_getElem? this
        have hno : p.isOwn = false := by cases hr' <;> rfl
        have vi : VarIs (fenv fd s.heap.objs.size fa) s'.heap y v := by
          rcases hpk y (List.mem_of_getElem? hi) with q | ⟨q, q'⟩
          · exact .inl ⟨q, _, x.toInCall.ns, bindL_get (k := (fenv fd s.heap.objs.size fa).kindOf) q hzip hm⟩
          · obtain ⟨c, hc⟩ := Option.isSome_iff_exists.mp (q' (s.heap.objs.size + 1))
            refine .inr ⟨q, c, hc, ?_⟩
            have := cellAt y c hc
            rw [bindC_get (k := (fenv fd s.heap.objs.size fa).kindOf) q hzip hm] at this
            exact this
        have hr'' : Rep C (P ++ (s.heap.objs.size :: (cellsFrom (s.heap.objs.size + 1) fd.scope.names []).map (·.2))) s'.heap v p := by
          have r0 : Rep C P s.heap v p ∨ ∀ P' h', Rep C P' h' v p := by
            by_cases hl : i < vs.length
            · left
              rw [List.getElem?_append_left hl] at hv
              rw [List.getElem?_append_left (by rw [← hr.length]; exact hl)] at hp
              obtain ⟨v', e1, e2⟩ := rargs.get hp
              rw [hv] at e1; cases e1; exact e2
            · right
              rw [List.getElem?_append_right (by omega)] at hv
              rw [List.getElem?_append_right (by rw [← hr.length]; omega), ← hr.length] at hp
              intro P' h'
              obtain ⟨v', e1, e2⟩ := (hdv P' h').get hp
              rw [hv] at e1; cases e1; exact e2
          rcases r0 with r0 | r0
          · refine r0.move fun b o hb e => ⟨fun hm => ?_, kk b o e⟩
            rcases List.mem_append.mp hm with q | q
            · exact hb q
            · rw [fresh b (Wge b q)] at e; cases e
          · exact r0 _ _
        cases p <;> first | exact (Bool.noConfusion hno) | exact ⟨v, vi, hr''⟩
      · obtain ⟨i, hi, hp⟩ := lookup_zip e
        obtain ⟨v, hv, hr'⟩ := rall.get hp
        cases hr'
    refine wpAny_mono (hbody s.heap.objs.size (A.deeper _) P _ s' (hA.deeper _) S) (fun fl s'' d => ?_) fun _ _ x => x.elim
    obtain ⟨⟨out, rfl, v, rfl, r⟩, h₂, tk₂, rfl, k₂⟩ := d
    refine ⟨.inl r, ?_⟩
    subst e
    exact ⟨h₂, tk₂, rfl, fun b o e => k₂ b o (fun hm => by rw [fresh b (Wge b hm)] at e; cases e) (kk b o e)⟩
end
end Mine
end
section
open PySem PySem.W PyProof.Rows PySem.Calls
namespace Mine
section
variable {C : Cx} {n : Nat} {env : Env} {σ : Loc} {Pout W : List Addr} {s s₁ s₂ : Shared}

theorem compEnv_is {scope : Scope} {cl : List (Str × Addr)} {L : Addr} : ({ newEnv scope L env.globals cl env.qual none .none (some env) env.builtins with scope := relabel scope env } : Env) = compEnvC scope cl L env := rfl

/-- the captured names -/
noncomputable def Captured (σ : Loc) (scope : Scope) (cl : List (Str × Addr)) (env : Env) (σf : Loc) : Prop :=
  ∀ x p, σf.lookup x = some p → σ.lookup x = some p ∧ p.isOwn = false ∧ env.kindOf x = some .cell ∧ (relabel scope env).names.lookup x = some .cell ∧ cl.lookup x = env.cells.lookup x

/-- the state within a comprehension -/
theorem comp_state (S : StR C env Pout W σ s) {s' : Shared} {I D Cf : Addr} {scope : Scope} {cl : List (Str × Addr)} {σf : Loc} (K : Keeps s s') (hI : s.heap.get? I = none) (hD : s.heap.get? D = none) (hC : s.heap.get? Cf = none) (hne : Cf ≠ I ∧ Cf ≠ D)
    (eI : ∃ o, s'.heap.get? I = some o) (eD : ∃ o, s'.heap.get? D = some o) (ns : ∃ m, s'.heap.Ns Cf m) (hcap : Captured σ scope cl env σf) (hcl : ∀ m c, cl.lookup m = some c → env.cells.lookup m = some c) :
    StR C (compEnvC scope cl Cf env) (I :: D :: (Pout ++ W)) [Cf] σf s' := by
  have k := keepsHeap K
  have S' := S.quiet K
  have gn : ∀ a, s.heap.get? a = none → C.g.get? a = none := fun a e => by
    cases q : C.g.get? a with
    | none => rfl
    | some o => rw [S.keep _ _ q] at e; cases e
  obtain ⟨ad, hv, hd⟩ := S.vars
  have eC : ∃ o, s'.heap.get? Cf = some o := let ⟨m, o, _, _, e, _⟩ := ns; ⟨o, e⟩
  have mem : ∀ a, a ∈ (I :: D :: (Pout ++ W)) ++ [Cf] → a = I ∨ a = D ∨ a = Cf ∨ a ∈ Pout ++ W := fun a ha => by
    rcases List.mem_append.mp ha with q | q
    · rcases List.mem_cons.mp q with q | q
      · exact .inl q
      · rcases List.mem_cons.mp q with q | q
        · exact .inr (.inl q)
        · exact .inr (.inr (.inr q))
    · exact .inr (.inr (.inl (List.mem_singleton.mp q)))
  refine ⟨S'.keep, fun a ha => ?_, fun a ha => ?_, fun a ha hm => ?_, List.mem_singleton.mpr rfl, fun m c e => ?_, (fun hf => by cases hf), fun m m' c e e' => S.apart _ _ _ (hcl _ _ e) (hcl _ _ e'), ns, fun _ => 0, fun x p e => ?_, fun x y l l' e => ?_⟩
  · rcases mem a ha with rfl | rfl | rfl | q
    · exact eI
    · exact eD
    · exact eC
    · exact S'.there a q
  · rcases mem a ha with rfl | rfl | rfl | q
    · exact gn _ hI
    · exact gn _ hD
    · exact gn _ hC
    · exact S.new a q
  · rw [List.mem_singleton.mp ha] at hm
    rcases List.mem_cons.mp hm with q | q
    · exact hne.1 q
    · rcases List.mem_cons.mp q with q | q
      · exact hne.2 q
      · obtain ⟨o, e⟩ := S.there _ q
        rw [hC] at e; cases e
  · exact List.mem_append_left _ (.tail _ (.tail _ (S.cellP m c (hcl m c e))))
  · obtain ⟨h1, h2, h3, h4, h5⟩ := hcap x p e
    have q := hv x p h1
    have up : ∀ {v : Value}, Rep C (Pout ++ W) s.heap v p → Rep C ((I :: D :: (Pout ++ W)) ++ [Cf]) s'.heap v p := fun r => r.move fun b o hb e => ⟨fun hm => by
      rcases mem b hm with rfl | rfl | rfl | q
      · rw [hI] at e; cases e
      · rw [hD] at e; cases e
      · rw [hC] at e; cases e
      · exact hb q, k b o e⟩
    have vi : ∀ v, VarIs env s.heap x v → VarIs (compEnvC scope cl Cf env) s'.heap x v := fun v r => by
      rcases r with ⟨a, _⟩ | ⟨a, c, hc, hi⟩
      · rw [h3] at a; cases a
      · exact .inr ⟨h4, c, by show cl.lookup x = some c; rw [h5]; exact hc, hi.keeps k⟩
    cases p with
    | own l => cases h2
    | _ => obtain ⟨v, a, b⟩ := q; exact ⟨v, vi v a, up b⟩
  · have := (hcap x _ e).2.1
    cases this

theorem SlotIs.rep_of {P Q : List Addr} {h h' : Heap} {v : Value} {p : PV} (r : Rep C P h v p) (k : ∀ b o, b ∉ P → h.get? b = some o → b ∉ Q ∧ h'.get? b = some o) : Rep C Q h' v p := r.move k

/-- a list comprehension with no test or one -/
theorem EvE.comp {elt target iter : Expr} {ifs : List Expr} {scope : Scope} {pos : Pos} {a : PV} {xs : List PV} {cl : List (Str × Addr)} {σf : Loc} (ext : PV → Loc) (sel : PV → Bool) (val : PV → PV)
    (he : EvE C n env σ iter a) (hit : IterR C n a xs) (hclos : closureFor scope env = pure cl) (hcell : ∀ y ∈ scope.names, y.2 ≠ .cell) (hkind : scope.kind = .function) (hnames : ∀ y ∈ scope.names, y.2 = .local → scope.names.lookup y.1 = some .local)
    (hcap : Captured σ scope cl env σf) (hcl : ∀ m c, cl.lookup m = some c → env.cells.lookup m = some c)
    (hasg : ∀ Cf, ∀ x ∈ xs, AsgR C n (compEnvC scope cl Cf env) target x (ext x))
    (htest : (ifs = [] ∧ ∀ x ∈ xs, sel x = true) ∨ ∃ c, ifs = [c] ∧ ∀ Cf, ∀ x ∈ xs, EvB C n (compEnvC scope cl Cf env) (ext x ++ σf) c (sel x))
    (helt : ∀ Cf, ∀ x ∈ xs, sel x = true → EvE C n (compEnvC scope cl Cf env) (ext x ++ σf) elt (val x) ∧ (val x).isOwn = false) (hz : xs.length ≤ 1000000)
    (hs : ∀ x, foldedSetIterable iter env x = pure x) (hsub : ∀ x ∈ xs, ∀ y p, σf.lookup y = some p → (ext x ++ σf).lookup y = some p) : EvE C n env σ (.ListComp elt [⟨target, iter, ifs, 0⟩] scope pos) (.lst ((xs.filter sel).map val)) := by
  intro A Pout W s hA S
  rw [eval_ListComp]
  refine wpAny_comprehension_free (use := none) rfl hs hclos hkind hnames (wpAny_mono (he A Pout W s hA S) (fun v s₀ h₀ => ?_) fun _ _ e => e)
  have S₀ := S.quiet h₀.2
  refine hit A _ s₀ v _ hA S₀.priv h₀.1 fun I s₁ fp Pv St K₁ hI hSt Wk st0 hfp hP hgo => ?_
  refine wpAny_newObj_type (wpAny_newFunctionEnv hcell (by intro y hy; simp at hy) (fun h₁ hns₁ hsb₁ => ?_) hkind) (by show (0 : Nat) ≤ _; exact Nat.zero_le _)
  dsimp only at hns₁ hsb₁ ⊢
  have S₁ := S₀.quiet K₁
  -- the three new addresses
  generalize hH2 : s₁.heap.push { cls := .type "list", dict := none, data := .seq ([] : List Value).toArray } = H2 at hns₁ hsb₁ ⊢
  have hCs : H2.objs.size = s₁.heap.objs.size + 1 := by rw [← hH2, Heap.size_push]
  have hD1 : s₁.heap.get? s₁.heap.objs.size = none := Heap.get?_none_of_le (Nat.le_refl _)
  have hC1 : s₁.heap.get? H2.objs.size = none := Heap.get?_none_of_le (by rw [hCs]; exact Nat.le_succ _)
  have eI1 : ∃ o, s₁.heap.get? I = some o := (hSt 0 _ st0).1
  have hIlt : I < s₁.heap.objs.size := let ⟨o, e⟩ := eI1; Heap.lt_size e
  have k13 : KeepH s₁.heap h₁ := fun b o e => hsb₁.extBut b o (by rw [hCs]; exact Nat.ne_of_lt (Nat.lt_succ_of_lt (Heap.lt_size e))) (Heap.get?_push_of_some _ (hH2 ▸ Heap.get?_push_of_some _ e))
  have hDpl : h₁.PlainList s₁.heap.objs.size #[] := ⟨0, hsb₁.extBut _ _ (by rw [hCs]; exact Nat.ne_of_lt (Nat.lt_succ_self _)) (Heap.get?_push_of_some _ (hH2 ▸ Heap.get?_push_size _ rfl))⟩
  have K03 : Keeps s₀ { s₁ with heap := h₁, toks := s₁.toks + ([] : List (Str × Value)).length } := keepsTrans K₁ ⟨_, _, rfl, k13⟩
  have D0 : s₀.heap.get? s₁.heap.objs.size = none := by
    cases q : s₀.heap.get? s₁.heap.objs.size with
    | none => rfl
    | some o => rw [keepsHeap K₁ _ _ q] at hD1; cases hD1
  have C0 : s₀.heap.get? H2.objs.size = none := by
    cases q : s₀.heap.get? H2.objs.size with
    | none => rfl
    | some o => rw [keepsHeap K₁ _ _ q] at hC1; cases hC1
  have hneCI : H2.objs.size ≠ I ∧ H2.objs.size ≠ s₁.heap.objs.size := ⟨by rw [hCs]; exact Nat.ne_of_gt (Nat.lt_succ_of_lt hIlt), by rw [hCs]; exact Nat.ne_of_gt (Nat.lt_succ_self _)⟩
  have hID : I ≠ s₁.heap.objs.size := Nat.ne_of_lt hIlt
  have st1 : St 0 h₁ := Wk.frame _ _ _ st0 fun b _ o e => k13 b o e
  have Sc : StR C (compEnvC scope cl H2.objs.size env) (I :: s₁.heap.objs.size :: (Pout ++ W)) [H2.objs.size] σf { s₁ with heap := h₁, toks := s₁.toks + ([] : List (Str × Value)).length } :=
    comp_state S₀ K03 hI D0 C0 hneCI (let ⟨o, e⟩ := eI1; ⟨o, k13 _ _ e⟩) (let ⟨k, e⟩ := hDpl; ⟨_, e⟩) ⟨_, hns₁⟩ hcap hcl
  generalize hs3 : ({ s₁ with heap := h₁, toks := s₁.toks + ([] : List (Str × Value)).length } : Shared) = s₃ at Sc K03 ⊢
  have hh3 : s₃.heap = h₁ := by rw [← hs3]
  -- the loop
  have loop : codeAny C.M A (.compLoop (.ListComp elt [⟨target, iter, ifs, 0⟩] scope pos) 0 (.ref I) (.ref s₁.heap.objs.size) (compEnvC scope cl H2.objs.size env))
      (compPost C.M A noE none (fun v s' => RepT C (Pout ++ W) s'.heap v (.lst ((xs.filter sel).map val)) ∧ Keeps s s') (.ref s₁.heap.objs.size) H2.objs.size) s₃ := by
    have hIP0 : I ∉ Pout ++ W := fun hm => by obtain ⟨o, e⟩ := S₀.there _ hm; rw [hI] at e; cases e
    have hDP0 : s₁.heap.objs.size ∉ Pout ++ W := fun hm => by obtain ⟨o, e⟩ := S₀.there _ hm; rw [D0] at e; cases e
    have hCP0 : H2.objs.size ∉ Pout ++ W := fun hm => by obtain ⟨o, e⟩ := S₀.there _ hm; rw [C0] at e; cases e
    have K0s : Keeps s s₃ := keepsTrans h₀.2 K03
    let T := [I, s₁.heap.objs.size, H2.objs.size]
    have hT : ∀ a ∈ T, s.heap.get? a = none := fun a ha => by
      have q : s₀.heap.get? a = none := by
        rcases List.mem_cons.mp ha with rfl | ha
        · exact hI
        · rcases List.mem_cons.mp ha with rfl | ha
          · exact D0
          · rw [List.mem_singleton.mp ha]; exact C0
      cases q' : s.heap.get? a with
      | none => rfl
      | some o => rw [keepsHeap h₀.2 _ _ q'] at q; cases q
    have inT : ∀ {a : Addr}, (a = I ∨ a = s₁.heap.objs.size ∨ a = H2.objs.size) → a ∈ T := fun h => by
      rcases h with rfl | rfl | rfl
      · exact .head _
      · exact .tail _ (.head _)
      · exact .tail _ (.tail _ (.head _))
    let Po := I :: s₁.heap.objs.size :: (Pout ++ W)
    have subP : ∀ b, b ∈ Pout ++ W → b ∈ Po ++ [H2.objs.size] := fun b hb => List.mem_append_left _ (.tail _ (.tail _ hb))
    let Inv : Nat → Shared → Prop := fun k s' => ∃ i vs, k = xs.length + 1 - i ∧ i ≤ xs.length ∧ St i s'.heap ∧ StR C (compEnvC scope cl H2.objs.size env) Po [H2.objs.size] σf s' ∧ s'.heap.PlainList s₁.heap.objs.size vs.toArray ∧
      RepAll C (Po ++ [H2.objs.size]) s'.heap vs (((xs.take i).filter sel).map val) ∧ Chg T s₃ s'
    have start : Inv (xs.length + 1) s₃ := ⟨0, [], rfl, Nat.zero_le _, by rw [hh3]; exact st1, Sc, by rw [hh3]; exact hDpl, by simpa using RepAll.nil, chgRefl s₃⟩
    -- the end
    have fin : ∀ i vs (s' : Shared) (h' : Heap) (tk : Nat), i = xs.length → St i s'.heap → StR C (compEnvC scope cl H2.objs.size env) Po [H2.objs.size] σf s' → s'.heap.PlainList s₁.heap.objs.size vs.toArray →
        RepAll C (Po ++ [H2.objs.size]) s'.heap vs (((xs.take i).filter sel).map val) → Chg T s₃ s' → (∀ b o, b ∉ [I] → s'.heap.get? b = some o → h'.get? b = some o) →
        compPost C.M A noE none (fun v s' => RepT C (Pout ++ W) s'.heap v (.lst ((xs.filter sel).map val)) ∧ Keeps s s') (.ref s₁.heap.objs.size) H2.objs.size (.ok .next) { s' with heap := h', toks := tk } := by
      intro i vs s' h' tk hi hst S' hD hr c hk
      subst hi
      obtain ⟨m, hm⟩ := S'.ns
      have hm' : h'.Ns H2.objs.size m := Heap.Ns.at' (h := s'.heap) hm fun o e => hk H2.objs.size o (by simpa using hneCI.1) e
      refine ⟨m, hm', fun h'' hs'' => ?_⟩
      obtain ⟨kD, eD⟩ := hD
      have all : ∀ b o, b ∉ Po ++ [H2.objs.size] → s'.heap.get? b = some o → h''.get? b = some o := fun b o hb e => hs''.extBut b o (fun q => hb (q ▸ List.mem_append_right _ (.head _))) (hk b o (fun q => hb (List.mem_append_left _ (by rw [List.mem_singleton.mp q]; exact .head _))) e)
      refine ⟨.inl (.lst hDP0 ⟨kD, hs''.extBut _ _ (Ne.symm hneCI.2) (hk _ _ (by simpa using Ne.symm hID) eD)⟩ ?_), ?_⟩
      · rw [List.take_of_length_le (Nat.le_refl _)] at hr
        exact hr.move fun b o hb e => ⟨fun hm => hb (subP b hm), all b o hb e⟩
      · obtain ⟨h₂, tk₂, rfl, k₂⟩ := c
        obtain ⟨h₃, tk₃, rfl, k₃⟩ := K0s
        refine ⟨h'', tk, rfl, fun b o e => ?_⟩
        have hbT : b ∉ T := fun hm => by rw [hT b hm] at e; cases e
        have e2 := k₂ b o hbT (k₃ b o e)
        exact hs''.extBut b o (fun q => hbT (inT (.inr (.inr q)))) (hk b o (fun q => hbT (inT (.inl (List.mem_singleton.mp q)))) e2)
    -- behind the test
    have takeOn : ∀ i x, xs[i]? = some x → ((xs.take (i + 1)).filter sel).map val = ((xs.take i).filter sel).map val ++ (if sel x then [val x] else []) := fun i x hx => by
      rw [List.take_add_one, hx, Option.toList_some, List.filter_append, List.map_append]
      cases hsx : sel x <;> simp [hsx]
    have back : ∀ i x (vs : List Value) (s' : Shared), xs[i]? = some x → St (i + 1) s'.heap → StR C (compEnvC scope cl H2.objs.size env) Po [H2.objs.size] (ext x ++ σf) s' → s'.heap.PlainList s₁.heap.objs.size vs.toArray →
        RepAll C (Po ++ [H2.objs.size]) s'.heap vs (((xs.take i).filter sel).map val) → Chg T s₃ s' → sel x = false → ∃ m, m < xs.length + 1 - i ∧ Inv m s' := by
      intro i x vs s' hx hst S' hD hr c hsx
      have hlt : i < xs.length := (List.getElem?_eq_some_iff.mp hx).1
      exact ⟨xs.length + 1 - (i + 1), by omega, i + 1, vs, rfl, hlt, hst, S'.weaken fun y p e => hsub x (List.mem_of_getElem? hx) y p e, hD, by rw [takeOn i x hx, hsx]; simpa using hr, c⟩
    have app : ∀ i x (vs : List Value) (s' : Shared), xs[i]? = some x → St (i + 1) s'.heap → StR C (compEnvC scope cl H2.objs.size env) Po [H2.objs.size] (ext x ++ σf) s' → s'.heap.PlainList s₁.heap.objs.size vs.toArray →
        RepAll C (Po ++ [H2.objs.size]) s'.heap vs (((xs.take i).filter sel).map val) → Chg T s₃ s' → sel x = true → 
        wpAny C.M A (eval elt (compEnvC scope cl H2.objs.size env)) (fun y s₄ => wpAny C.M A (PySem.call (.builtin "list.append") [.ref s₁.heap.objs.size, y]) (fun _ s₅ => ∃ m, m < xs.length + 1 - i ∧ Inv m s₅) noE s₄) noE s' := by
      intro i x vs s' hx hst S' hD hr c hsx
      have hlt : i < xs.length := (List.getElem?_eq_some_iff.mp hx).1
      have hmem := List.mem_of_getElem? hx
      obtain ⟨hev, hno⟩ := helt H2.objs.size x hmem hsx
      refine wpAny_mono (hev A Po [H2.objs.size] s' hA S') (fun y s₄ h₄ => ?_) fun _ _ e => e
      have k₄ := keepsHeap h₄.2
      obtain ⟨kD, eD⟩ := hD
      have hvl : vs.length ≤ xs.length := by
        have h1 := hr.length
        have h2 : (((xs.take i).filter sel).map val).length ≤ xs.length := by
          rw [List.length_map]; exact Nat.le_trans (List.length_filter_le _ _) (by rw [List.length_take]; exact Nat.min_le_right _ _)
        omega
      refine wpAny_list_append_plain ⟨kD, k₄ _ _ eD⟩ (fun h' hl' hs' => ?_) (by rw [sizeLine_eq, List.size_toArray]; omega)
      have S₄ := S'.quiet h₄.2
      have cD : Chg [s₁.heap.objs.size] s₄ { s₄ with heap := h' } := ⟨h', s₄.toks, rfl, fun b o hb e => hs'.extBut b o (fun q => hb (by rw [q]; exact .head _)) e⟩
      have S₅ : StR C (compEnvC scope cl H2.objs.size env) Po [H2.objs.size] (ext x ++ σf) { s₄ with heap := h' } :=
        S₄.outer (.tail _ (.head _)) (fun m hm => nsList hm ⟨kD, k₄ _ _ eD⟩) (fun v hv => cellList hv ⟨kD, k₄ _ _ eD⟩) cD (let ⟨k, e⟩ := hl'; ⟨_, e⟩)
      refine ⟨xs.length + 1 - (i + 1), by omega, i + 1, vs ++ [y], rfl, hlt, ?_, S₅.weaken fun z p e => hsub x hmem z p e, by simpa using hl', ?_, ?_⟩
      · refine Wk.frame _ _ _ hst fun b hb o e => hs'.extBut b o (fun q => ?_) (k₄ b o e)
        rcases hfp b hb with r | ⟨r, o', e'⟩
        · exact hID (r.symm.trans q)
        · subst q; rw [D0] at e'; cases e'
      · rw [takeOn i x hx, hsx]
        refine (((hr.keep k₄).append (.cons (h₄.1.rep hno) .nil))).move fun b o hb e => ⟨hb, hs'.extBut b o (fun q => hb (q ▸ List.mem_append_left _ (.tail _ (.head _)))) e⟩
      · exact chgTrans (chgTrans c (fun a ha => .inl ha) (keepsChg h₄.2)) (W₁ := [s₁.heap.objs.size]) (fun a ha => .inl (by rw [List.mem_singleton.mp ha]; exact inT (.inr (.inl rfl)))) cD
    -- a turn up to its test
    have head : ∀ (k : Nat) (s' : Shared) (R : Option Value → Shared → Prop), Inv k s' → (∀ h' tk i vs, k = xs.length + 1 - i → i = xs.length → St i s'.heap → StR C (compEnvC scope cl H2.objs.size env) Po [H2.objs.size] σf s' → s'.heap.PlainList s₁.heap.objs.size vs.toArray →
          RepAll C (Po ++ [H2.objs.size]) s'.heap vs (((xs.take i).filter sel).map val) → Chg T s₃ s' → (∀ b o, b ∉ [I] → s'.heap.get? b = some o → h'.get? b = some o) → R none { s' with heap := h', toks := tk }) →
        (∀ v s₂ i x, k = xs.length + 1 - i → xs[i]? = some x → (∀ (Q : Unit → Shared → Prop) (E : Value → Shared → Prop), (∀ vs s₄, St (i + 1) s₄.heap → StR C (compEnvC scope cl H2.objs.size env) Po [H2.objs.size] (ext x ++ σf) s₄ → s₄.heap.PlainList s₁.heap.objs.size vs.toArray →
          RepAll C (Po ++ [H2.objs.size]) s₄.heap vs (((xs.take i).filter sel).map val) → Chg T s₃ s₄ → Q () s₄) → wpAny C.M A (letOwnedTupleGo target (.ref I) v) (fun _ s₀ => wpAny C.M A (assign target (compEnvC scope cl H2.objs.size env) v) Q E s₀) noE s₂) → R (some v) s₂) → wpAny C.M A (pyNext (.ref I)) R noE s' := by
      rintro k s' R ⟨i, vs, hk, hi, hst, S', hD, hr, c⟩ hnone hsome
      by_cases hlt : i < xs.length
      · refine Wk.item i _ _ _ hlt hst fun v h₁' tk₁ hPv hst₁ hk₁ => ?_
        obtain ⟨x, hx, rx⟩ := hP i v hPv
        refine hsome v _ i x hk hx fun Q E hQ => hgo i v target _ _ hPv hst₁ ?_
        have c₁ : Chg [I] s' { s' with heap := h₁', toks := tk₁ } := ⟨h₁', tk₁, rfl, hk₁⟩
        have S₂ := S'.outer (.head _) (hSt i _ hst).2.1 (hSt i _ hst).2.2 c₁ (hSt _ _ hst₁).1
        have c₂ : Chg T s₃ { s' with heap := h₁', toks := tk₁ } := chgTrans c (W₁ := [I]) (fun a ha => .inl (by rw [List.mem_singleton.mp ha]; exact .head _)) c₁
        obtain ⟨kD, eD⟩ := hD
        have eD₁ : h₁'.get? s₁.heap.objs.size = some _ := hk₁ _ _ (by simpa using Ne.symm hID) eD
        have hr₁ : RepAll C (Po ++ [H2.objs.size]) h₁' vs (((xs.take i).filter sel).map val) := hr.move fun b o hb e => ⟨hb, hk₁ b o (fun q => hb (List.mem_append_left _ (by rw [List.mem_singleton.mp q]; exact .head _))) e⟩
        have hT3 : ∀ a ∈ T, s₀.heap.get? a = none := fun a ha => by
          rcases List.mem_cons.mp ha with rfl | ha
          · exact hI
          · rcases List.mem_cons.mp ha with rfl | ha
            · exact D0
            · rw [List.mem_singleton.mp ha]; exact C0
        have rnow : Rep C (Po ++ [H2.objs.size]) h₁' v x := rx.move fun b o hb e => by
          have hbT : b ∉ T := fun hm => by rw [hT3 b hm] at e; cases e
          refine ⟨fun hm => ?_, chgHeap c₂ b o hbT (keepsHeap K03 b o e)⟩
          rcases List.mem_append.mp hm with q | q
          · rcases List.mem_cons.mp q with q | q
            · exact hbT (inT (.inl q))
            · rcases List.mem_cons.mp q with q | q
              · exact hbT (inT (.inr (.inl q)))
              · exact hb q
          · exact hbT (inT (.inr (.inr (List.mem_singleton.mp q))))
        refine anyE (hasg H2.objs.size x (List.mem_of_getElem? hx) σf A Po [H2.objs.size] _ v _ hA S₂ rnow fun s₄ S₄ c₄ => ?_)
        have k₄ : ∀ b o, b ≠ H2.objs.size → h₁'.get? b = some o → s₄.heap.get? b = some o := fun b o hb e => chgHeap c₄ b o (by simpa using hb) e
        refine hQ vs s₄ (Wk.frame _ _ _ hst₁ fun b hb o e => k₄ b o (fun q => ?_) e) S₄ ⟨kD, k₄ _ _ (Ne.symm hneCI.2) eD₁⟩ (hr₁.move fun b o hb e => ⟨hb, k₄ b o (fun q => hb (q ▸ List.mem_append_right _ (.head _))) e⟩)
          (chgTrans c₂ (W₁ := [H2.objs.size]) (fun a ha => .inl (by rw [List.mem_singleton.mp ha]; exact inT (.inr (.inr rfl)))) c₄)
        rcases hfp b hb with r | ⟨r, o', e'⟩
        · exact hneCI.1 (q.symm.trans r)
        · subst q; rw [C0] at e'; cases e'
      · have hin : i = xs.length := by omega
        subst hin
        refine Wk.done _ _ _ hst fun h' tk hk' => hnone h' tk _ vs hk rfl hst S' hD hr c hk'
    rcases htest with ⟨rfl, hall⟩ | ⟨cnd, rfl, htest⟩
    · refine kcp_loop Inv (fun k s' hinv => anyE (head k s' _ hinv (fun h' tk i vs hk hi hst S' hD hr c hk' => fin i vs s' h' tk hi hst S' hD hr c hk') fun v s₂ i x hk hx go => ?_)) _ start
      refine anyE (go _ _ fun vs s₄ hst S₄ hD hr c => ?_)
      subst hk
      exact anyE (wpAny_mono (app i x vs s₄ hx hst S₄ hD hr c (hall x (List.mem_of_getElem? hx))) (fun y s₅ h₅ => anyE h₅) fun _ _ e => e)
    · refine kct_loop Inv (fun k s' hinv => anyE (head k s' _ hinv (fun h' tk i vs hk hi hst S' hD hr c hk' => fin i vs s' h' tk hi hst S' hD hr c hk') fun v s₂ i x hk hx go => ?_)) _ start
      refine anyE (go _ _ fun vs s₄ hst S₄ hD hr c => ?_)
      subst hk
      refine anyE (wpAny_mono (htest H2.objs.size x (List.mem_of_getElem? hx) A Po [H2.objs.size] s₄ hA S₄) (fun b s₅ h₅ => ?_) fun _ _ e => e)
      obtain ⟨rfl, K₅⟩ := h₅
      have k₅ := keepsHeap K₅
      have hst₅ : St (i + 1) s₅.heap := Wk.frame _ _ _ hst fun b _ o e => k₅ b o e
      have S₅ := S₄.quiet K₅
      obtain ⟨kD, eD⟩ := hD
      have c₅ : Chg T s₃ s₅ := chgTrans c (fun a ha => .inl ha) (keepsChg K₅)
      cases hsx : sel x with
      | false => exact back i x vs s₅ hx hst₅ S₅ ⟨kD, k₅ _ _ eD⟩ (hr.keep k₅) c₅ hsx
      | true => exact anyE (wpAny_mono (app i x vs s₅ hx hst₅ S₅ ⟨kD, k₅ _ _ eD⟩ (hr.keep k₅) c₅ hsx) (fun y s₆ h₆ => anyE h₆) fun _ _ e => e)
  exact codeAny_compStart_list (by exact loop) (Wk.self 0 _ _ _ (by rw [hh3]; exact st1) (by exact loop))
end
end Mine
end
section
open PySem PySem.W PyProof.Rows PySem.Calls
namespace Mine
section
variable {C : Cx} {n : Nat}

/-! ints -/
theorem opI {f : Value → Value → Sem Value} {a b c : Int} (h : ∀ {A : Around} {E : Value → Shared → Prop} {s : Shared} {t u : Tok} {Q : Value → Shared → Prop}, Q (.int c s.toks) { s with toks := s.toks + 1 } → wpAny C.M A (f (.int a t) (.int b u)) Q E s) : Op2 C n f (.int a) (.int b) (.int c) := by
  intro A P s v u _ _ _ r r'
  obtain ⟨t, rfl⟩ := r.int_inv
  obtain ⟨t', rfl⟩ := r'.int_inv
  exact h ⟨.inl (.int c _), keepsTok s _⟩
theorem opIB {f : Value → Value → Sem Value} {a b : Int} {c : Bool} (h : ∀ {A : Around} {E : Value → Shared → Prop} {s : Shared} {t u : Tok} {Q : Value → Shared → Prop}, Q (.bool c) s → wpAny C.M A (f (.int a t) (.int b u)) Q E s) : Op2 C n f (.int a) (.int b) (.bool c) := by
  intro A P s v u _ _ _ r r'
  obtain ⟨t, rfl⟩ := r.int_inv
  obtain ⟨t', rfl⟩ := r'.int_inv
  exact h ⟨.inl (.bool c), keepsRefl s⟩
theorem o_add {a b : Int} : Op2 C n (binaryOp .Add) (.int a) (.int b) (.int (a + b)) := opI fun h => PyProof.Rows.add_int h
theorem o_sub {a b : Int} : Op2 C n (binaryOp .Sub) (.int a) (.int b) (.int (a - b)) := opI fun h => PyProof.Rows.sub_int h
theorem o_mul {a b : Int} (hm : IntMulOk a b) : Op2 C n (binaryOp .Mult) (.int a) (.int b) (.int (a * b)) := opI fun h => PyProof.Rows.mul_int h hm
theorem o_div {a b : Int} (hb : b ≠ 0) (hz : b.natAbs.log2 < 9000) : Op2 C n (binaryOp .FloorDiv) (.int a) (.int b) (.int (a.fdiv b)) := opI fun h => PyProof.Rows.floordiv_int hb h (.inl (PyProof.noPylong_of_log2 hz))
theorem o_mod {a b : Int} (hb : b ≠ 0) : Op2 C n (binaryOp .Mod) (.int a) (.int b) (.int (a.fmod b)) := opI fun h => PyProof.Rows.mod_int hb h
theorem o_shl {a b : Int} (hb : 0 ≤ b) (hb2 : b ≤ 1000000) (ha : a.natAbs < 2 ^ 64) : Op2 C n (binaryOp .LShift) (.int a) (.int b) (.int (a * 2 ^ b.toNat)) := opI fun h => PyProof.Rows.lshift_int_small hb hb2 ha h
theorem o_shr {a b : Int} (hb : 0 ≤ b) : Op2 C n (binaryOp .RShift) (.int a) (.int b) (.int (a.fdiv (2 ^ b.toNat))) := opI fun h => PyProof.Rows.rshift_int hb h
theorem o_and {a b : Int} : Op2 C n (binaryOp .BitAnd) (.int a) (.int b) (.int (Builtin.bitAnd a b)) := opI fun h => PyProof.Rows.and_int h
theorem o_eq {a b : Int} : Op2 C n (compareOp .Eq) (.int a) (.int b) (.bool (a == b)) := opIB fun h => PyProof.Rows.eq_int h
theorem o_ne {a b : Int} : Op2 C n (compareOp .NotEq) (.int a) (.int b) (.bool (a != b)) := opIB fun h => PyProof.Rows.ne_int h
theorem o_lt {a b : Int} : Op2 C n (compareOp .Lt) (.int a) (.int b) (.bool (decide (a < b))) := opIB fun h => PyProof.Rows.lt_int h
theorem o_le {a b : Int} : Op2 C n (compareOp .LtE) (.int a) (.int b) (.bool (decide (a ≤ b))) := opIB fun h => PyProof.Rows.le_int h
theorem o_gt {a b : Int} : Op2 C n (compareOp .Gt) (.int a) (.int b) (.bool (decide (b < a))) := opIB fun h => PyProof.Rows.gt_int h
theorem o_ge {a b : Int} : Op2 C n (compareOp .GtE) (.int a) (.int b) (.bool (decide (b ≤ a))) := opIB fun h => PyProof.Rows.ge_int h
theorem o_neg {a : Int} : Op1 C n (unaryOp .USub) (.int a) (.int (-a)) := by
  intro A P s v _ _ _ r
  obtain ⟨t, rfl⟩ := r.int_inv
  exact PyProof.Rows.neg_int ⟨.inl (.int _ _), keepsTok s _⟩
theorem o_not {b : Bool} : Op1 C n (unaryOp .Not) (.bool b) (.bool (!b)) := by
  intro A P s v _ _ _ r
  rw [r.bool_inv]
  exact not_of (wpAny_truthy_bool ⟨.inl (.bool _), keepsRefl s⟩)

/-! texts, bytes -/
theorem o_eqStr {a b : Str} : Op2 C n (compareOp .Eq) (.str a) (.str b) (.bool (a == b)) := by
  intro A P s v u _ _ _ r r'
  obtain ⟨t, rfl⟩ := r.str_inv
  obtain ⟨t', rfl⟩ := r'.str_inv
  exact PyProof.Rows.eq_str ⟨.inl (.bool _), keepsRefl s⟩
theorem o_eqB {a b : List UInt8} : Op2 C n (compareOp .Eq) (.bytes a) (.bytes b) (.bool (a == b)) := by
  intro A P s v u _ _ _ r r'
  obtain ⟨t, rfl⟩ := r.bytes_inv
  obtain ⟨t', rfl⟩ := r'.bytes_inv
  exact eq_bytes ⟨.inl (.bool _), keepsRefl s⟩
theorem o_neB {a b : List UInt8} : Op2 C n (compareOp .NotEq) (.bytes a) (.bytes b) (.bool (a != b)) := by
  intro A P s v u _ _ _ r r'
  obtain ⟨t, rfl⟩ := r.bytes_inv
  obtain ⟨t', rfl⟩ := r'.bytes_inv
  exact ne_bytes ⟨.inl (.bool _), keepsRefl s⟩
theorem o_addB {a b : List UInt8} (hz : a.length + b.length ≤ 16777216) : Op2 C n (binaryOp .Add) (.bytes a) (.bytes b) (.bytes (a ++ b)) := by
  intro A P s v u _ _ _ r r'
  obtain ⟨t, rfl⟩ := r.bytes_inv
  obtain ⟨t', rfl⟩ := r'.bytes_inv
  refine KBy.add_bytes (by simpa using hz) fun t k => ?_
  rw [List.append_toArray]
  exact ⟨.inl (.bytes _ _), keepsTok s _⟩
theorem o_mulB {a : List UInt8} {k : Int} (ha : a ≠ []) (hz : a.length ≤ 16) (h0 : 0 ≤ k) (hk : k ≤ 1000) : Op2 C n (binaryOp .Mult) (.bytes a) (.int k) (.bytes (List.replicate k.toNat a).flatten) := by
  intro A P s v u _ _ _ r r'
  obtain ⟨t, rfl⟩ := r.bytes_inv
  obtain ⟨t', rfl⟩ := r'.int_inv
  exact bytes_mul_any ha (by omega) (by omega) hz fun t k => ⟨.inl (.bytes _ _), keepsTok s _⟩
theorem trB {a : List UInt8} (hz : a.length ≤ 16777216) : Tr C n (.bytes a) (!a.isEmpty) := by
  intro A P s v _ _ _ r
  obtain ⟨t, rfl⟩ := r.bytes_inv
  refine truthy_bytes (by simp; omega) ⟨?_, keepsTok s _⟩
  cases a with
  | nil => rfl
  | cons x y => simp; omega

/-! items -/
theorem g_byte {a : List UInt8} {i : Int} (h0 : 0 ≤ i) (h1 : i < a.length) (hz : a.length ≤ 16777216) : Op2 C n getItem (.bytes a) (.int i) (.int ((a.getD i.toNat 0).toNat : Int)) := by
  intro A P s v u _ _ _ r r'
  obtain ⟨t, rfl⟩ := r.bytes_inv
  obtain ⟨t', rfl⟩ := r'.int_inv
  exact getItem_bytes (by omega) h0 h1 ⟨.inl (.int _ _), keepsTok s _⟩
/-- a part of a list -/
noncomputable def cut {α : Type} (l : List α) (lo hi : Option Int) : List α := (l.drop (lo.elim 0 (clipAt l.length))).take (hi.elim l.length (clipAt l.length) - lo.elim 0 (clipAt l.length))
theorem g_cutB {a : List UInt8} {lo hi : Option Int} (hz : a.length ≤ 16777216) : Op2 C n getItem (.bytes a) (.slc lo hi) (.bytes (cut a lo hi)) := by
  intro A P s v u _ _ _ r r'
  obtain ⟨t, rfl⟩ := r.bytes_inv
  obtain ⟨sl, rfl, _, l, u, hs, hl, hu⟩ := r'.slc_inv
  refine getItem_meets (typeIs_bytes _ _ _) (by decide) FB.slot_bytes_getitem FB.entry_bytes_getitem (FB.args_bytes_getitem_2 _ _) (KBc.meets_slice2 _ t _ hl hu) ⟨hs, Nat.le_trans (KBc.size_picked_le _ lo hi) (by rw [sizeLine_eq]; simpa using hz), fun t' k => ?_⟩
  have e : KBy.picked a.toArray lo hi = (cut a lo hi).toArray := by
    rw [KBc.picked_eq]
    simp only [cut, List.size_toArray]
  rw [e]
  exact ⟨.inl (.bytes _ _), keepsTok s _⟩
theorem RepT.of_rep {P : List Addr} {h : Heap} {v : Value} {p : PV} (r : Rep C P h v p) : RepT C P h v p := .inl r
theorem g_list {p : PV} {l : List PV} {i : Int} {x : PV} (e : p.items? = some l) (h0 : 0 ≤ i) (hi : l[i.toNat]? = some x) (hz : l.length ≤ 16777216) : Op2 C n getItem p (.int i) x := by
  intro A P s v u _ _ _ r r'
  obtain ⟨a, vs, rfl, hl, hr⟩ := r.items_inv e
  obtain ⟨t', rfl⟩ := r'.int_inv
  obtain ⟨y, hy, ry⟩ := hr.get hi
  have hlt := (List.getElem?_eq_some_iff.mp hi).1
  exact getItem_listL hl.isList h0 (by omega) hy ⟨.inl ry, keepsRefl s⟩
theorem g_cutL {p : PV} {l : List PV} {lo hi : Option Int} (e : p.items? = some l) (hz : l.length ≤ 16777216) : Op2 C n getItem p (.slc lo hi) (.lst (cut l lo hi)) := by
  intro A P s v u _ _ hP r r'
  obtain ⟨a, vs, rfl, hl, hr⟩ := r.items_inv e
  obtain ⟨sl, rfl, _, l', u, hs, hl', hu⟩ := r'.slc_inv
  refine wpAny_getItem_list_slice hl.isList hs hl' hu .none (by simp) ⟨.inl (.lst (vs := cut vs lo hi) hP.fresh ⟨0, ?_⟩ ?_), _, _, rfl, KeepH.push _ _⟩ (by rw [sizeLine_eq, List.size_toArray, hr.length]; exact hz)
  · rw [slicePick_plain]
    simp only [cut, List.size_toArray]
    exact Heap.get?_push_size _ rfl
  · unfold cut
    rw [hr.length]
    exact ((hr.drop _).take _).keep (KeepH.push _ _)
theorem g_tup {l : List PV} {i : Int} {x : PV} (h0 : 0 ≤ i) (hi : l[i.toNat]? = some x) (hz : l.length ≤ 16777216) : Op2 C n getItem (.tup l) (.int i) x := by
  intro A P s v u _ _ _ r r'
  obtain ⟨a, vs, rfl, _, hl, hr⟩ := r.tup_inv
  obtain ⟨t', rfl⟩ := r'.int_inv
  obtain ⟨y, hy, ry⟩ := hr.get hi
  have hlt := (List.getElem?_eq_some_iff.mp hi).1
  have hlen := hr.length
  refine getItem_tuple (j := i.toNat) hl (by omega) (by omega) ?_ (by simpa using hy) ⟨.inl ry, keepsRefl s⟩
  have : i < (vs.toArray.size : Int) := by simp only [List.size_toArray]; omega
  simp [seqIndex?, h0, this]
  omega
theorem g_tab {f : Int → Option Int} {k i : Int} (h : f k = some i) : Op2 C n getItem (.tab f) (.int k) (.int i) := by
  intro A P s v u _ _ _ r r'
  obtain ⟨a, rfl, _, hs, m, hm, hf⟩ := r.tab_inv
  obtain ⟨t', rfl⟩ := r'.int_inv
  have q := hf k
  rw [h] at q
  obtain ⟨t, q⟩ := q
  exact wpAny_getItem_of (intKind_is _ _ k t') hm q ⟨.inl (.int i t), keepsTok s _⟩
theorem o_inTab {f : Int → Option Int} {k : Int} : Op2 C n (compareOp .In) (.int k) (.tab f) (.bool (f k).isSome) := by
  intro A P s v u _ _ _ r r'
  obtain ⟨a, rfl, _, hs, m, hm, hf⟩ := r'.tab_inv
  obtain ⟨t', rfl⟩ := r.int_inv
  refine wpAny_in_of (intKind_is _ _ k t') hs hm ⟨?_, keepsTok s _⟩
  have q := hf k
  cases e : f k with
  | none => rw [e] at q; rw [q]; exact .inl (.bool _)
  | some i => rw [e] at q; obtain ⟨t, q⟩ := q; rw [q]; exact .inl (.bool _)

/-! calls -/
theorem RepTs.one {P : List Addr} {h : Heap} {vs : List Value} {a : PV} (r : RepTs C P h vs [a]) : ∃ v, vs = [v] ∧ RepT C P h v a := by
  cases r with | cons x y => cases y; exact ⟨_, rfl, x⟩
theorem RepTs.two {P : List Addr} {h : Heap} {vs : List Value} {a b : PV} (r : RepTs C P h vs [a, b]) : ∃ v u, vs = [v, u] ∧ RepT C P h v a ∧ RepT C P h u b := by
  cases r with | cons x y => obtain ⟨u, e, z⟩ := y.one; exact ⟨_, _, by rw [e], x, z⟩
theorem RepTs.three {P : List Addr} {h : Heap} {vs : List Value} {a b c : PV} (r : RepTs C P h vs [a, b, c]) : ∃ v u w, vs = [v, u, w] ∧ RepT C P h v a ∧ RepT C P h u b ∧ RepT C P h w c := by
  cases r with | cons x y => obtain ⟨u, w, e, z⟩ := y.two; exact ⟨_, _, _, by rw [e], x, z⟩
theorem RepTs.four {P : List Addr} {h : Heap} {vs : List Value} {a b c d : PV} (r : RepTs C P h vs [a, b, c, d]) : ∃ v u w x, vs = [v, u, w, x] ∧ RepT C P h v a ∧ RepT C P h u b ∧ RepT C P h w c ∧ RepT C P h x d := by
  cases r with | cons x y => obtain ⟨u, w, x', e, z⟩ := y.three; exact ⟨_, _, _, _, by rw [e], x, z⟩
theorem c_lenB {a : List UInt8} (hz : a.length ≤ 16777216) : CallR C n (.builtin "len") [.bytes a] (.int a.length) := by
  intro A P s vs _ _ _ r
  obtain ⟨v, rfl, q⟩ := r.one
  obtain ⟨t, rfl⟩ := q.bytes_inv
  exact len_bytes (by simp; omega) ⟨.inl (by simpa using Rep.int (C := C) (P := P) (h := s.heap) ((a.toArray.size : Nat) : Int) (s.toks + 1)), keepsTok s _⟩
theorem c_lenL {p : PV} {l : List PV} (e : p.items? = some l) (hz : l.length ≤ 16777216) : CallR C n (.builtin "len") [p] (.int l.length) := by
  intro A P s vs _ _ _ r
  obtain ⟨v, rfl, q⟩ := r.one
  obtain ⟨a, ws, rfl, hl, hr⟩ := q.items_inv e
  refine call_len_list hl.isList (by rw [List.size_toArray, hr.length]; omega) ⟨.inl ?_, keepsTok s _⟩
  rw [List.size_toArray, hr.length]
  exact .int _ _
theorem c_range1 {b : Int} {k : Nat} (h : b = k) (hz : b ≤ 16777216) : CallR C n (.type "range") [.int b] (.rng 0 k 1) := by
  intro A P s vs _ _ hP r
  obtain ⟨v, rfl, q⟩ := r.one
  obtain ⟨t, rfl⟩ := q.int_inv
  refine call_range_1 ⟨.inl (.rng hP.fresh ⟨b, _, _, _, Heap.get?_push_size _ rfl, small_one (by omega) (by omega) (by omega) (by omega), ?_⟩), _, _, rfl, KeepH.push _ _⟩
  rw [rangeSize_one]; split <;> omega
theorem c_range2 {a b : Int} {k : Nat} (h : b = a + k) (h0 : -16777216 ≤ a) (hz : b ≤ 16777216) : CallR C n (.type "range") [.int a, .int b] (.rng a k 1) := by
  intro A P s vs _ _ hP r
  obtain ⟨v, u, rfl, q, q'⟩ := r.two
  obtain ⟨t, rfl⟩ := q.int_inv
  obtain ⟨t', rfl⟩ := q'.int_inv
  refine call_range_2 ⟨.inl (.rng hP.fresh ⟨b, _, _, _, Heap.get?_push_size _ rfl, small_one (by omega) (by omega) (by omega) (by omega), ?_⟩), _, _, rfl, KeepH.push _ _⟩
  rw [rangeSize_one]; split <;> omega
theorem c_range3 {a b c : Int} {k : Nat} (hc : c ≠ 0) (hcz : c.natAbs.log2 < 9000) (hs : Builtin.Range.small a b c = true) (hk : Builtin.Range.rangeSize a b c = (k : Int)) : CallR C n (.type "range") [.int a, .int b, .int c] (.rng a k c) := by
  intro A P s vs _ _ hP r
  obtain ⟨v, u, w, rfl, q, q', q''⟩ := r.three
  obtain ⟨t, rfl⟩ := q.int_inv
  obtain ⟨t', rfl⟩ := q'.int_inv
  obtain ⟨t'', rfl⟩ := q''.int_inv
  exact call_range_3 hc ⟨.inl (.rng hP.fresh ⟨b, _, _, _, Heap.get?_push_size _ rfl, hs, hk⟩), _, _, rfl, KeepH.push _ _⟩ (.inl (PyProof.noPylong_of_log2 hcz))

/-! walks -/
noncomputable def intsOf (l : List UInt8) : List PV := l.map fun c => .int c.toNat
noncomputable def rngInts (lo : Int) (k : Nat) (st : Int) : List PV := (List.range k).map fun (i : Nat) => .int (lo + (i : Int) * st)
theorem letGo_int {A : Around} {I : Addr} {i : Int} {t : Tok} {target : Expr} {Q : Unit → Shared → Prop} {s : Shared} (h : Q () s) : wpAny C.M A (letOwnedTupleGo target (.ref I) (.int i t)) Q noE s := by
  have e : letOwnedTupleGo target (.ref I) (.int i t) = pure () := by cases target <;> rfl
  rw [e]; exact wpAny_pure h
theorem i_bytes {l : List UInt8} : IterR C n (.bytes l) (intsOf l) := by
  intro A P s v Q hA hP r h
  obtain ⟨t, rfl⟩ := r.bytes_inv
  refine KBw.pyIter_bytes ?_
  have W := KBw.walks (prog := C.prog) (w := C.w) hA.hh s.heap.objs.size l.toArray t
  have e : l.toArray.size = (intsOf l).length := by simp [intsOf]
  rw [e] at W
  refine h s.heap.objs.size _ _ _ _ ⟨_, _, rfl, KeepH.push _ _⟩ (Heap.get?_none_of_le (Nat.le_refl _)) (fun i h' hit => ?_) W ⟨_, Heap.get?_push_size _ rfl, rfl, rfl⟩ (fun b hb => .inl (List.mem_singleton.mp hb)) (fun i v hv => ?_) fun i v target Q' s' hv _ hQ => ?_
  · obtain ⟨o, ho, hc, hd⟩ := hit
    refine ⟨⟨o, ho⟩, fun m hm => ?_, fun v hv => ?_⟩
    · obtain ⟨o', _, _, e', d', _⟩ := hm
      rw [ho] at e'; cases e'; rw [hd] at d'; cases d'
    · obtain ⟨o', e', d'⟩ := hv
      rw [ho] at e'; cases e'; rw [hd] at d'; cases d'
  · obtain ⟨c, u, hc, rfl⟩ := hv
    refine ⟨.int c.toNat, ?_, .int _ _⟩
    have hc' : l[i]? = some c := by simpa using hc
    simp [intsOf, hc']
  · obtain ⟨c, u, hc, rfl⟩ := hv
    exact letGo_int hQ
theorem i_rng {lo st : Int} {k : Nat} : IterR C n (.rng lo k st) (rngInts lo k st) := by
  intro A P s v Q hA hP r h
  obtain ⟨a, rfl, _, b, t, u, w, hr, hs, hk⟩ := r.rng_inv
  refine wpAny_pyIter_range hr hs ?_
  have W := Walks.range (prog := C.prog) (w := C.w) hA.hh s.heap.objs.size lo st k
  have e : k = (rngInts lo k st).length := by simp [rngInts]
  have key : ∀ j, j = k → Walks C.prog C.w A s.heap.objs.size [s.heap.objs.size] [s.heap.objs.size] j (fun i v => i < k ∧ ∃ t, v = .int (lo + (i : Int) * st) t) (fun i h => IsRangeIter h s.heap.objs.size (lo + (i : Nat) * st) ((k : Int) - (i : Nat)) st) := by rintro _ rfl; exact W.bound
  have W' := key _ e.symm
  refine h s.heap.objs.size _ _ _ _ ⟨_, _, rfl, KeepH.push _ _⟩ (Heap.get?_none_of_le (Nat.le_refl _)) (fun i h' hit => ?_) W' ?_ (fun b hb => .inl (List.mem_singleton.mp hb)) (fun i v hv => ?_) fun i v target Q' s' hv _ hQ => ?_
  · refine ⟨⟨_, hit⟩, fun m hm => ?_, fun v hv => ?_⟩
    · obtain ⟨o', _, _, e', d', _⟩ := hm
      rw [show h'.get? _ = some _ from hit] at e'; cases e'; cases d'
    · obtain ⟨o', e', d'⟩ := hv
      rw [show h'.get? _ = some _ from hit] at e'; cases e'; cases d'
  · show IsRangeIter _ _ _ _ _
    rw [hk]
    simpa [rawInt, IsRangeIter] using Heap.get?_push_size (h := s.heap) (o := ({ cls := .type "range_iterator", data := .fields #[.int lo 0, .int (k : Int) 0, .int st 0] } : Obj)) rfl
  · obtain ⟨hlt, u, rfl⟩ := hv
    exact ⟨.int (lo + (i : Int) * st), by simp [rngInts, hlt], .int _ _⟩
  · obtain ⟨hlt, u, rfl⟩ := hv
    exact letGo_int hQ
theorem i_list {l : List PV} : IterR C n (.lst l) l := by
  intro A P s v Q hA hP r h
  cases r.rep rfl with
  | @lst a vs _ ha hl hr =>
    have hlt : a < s.heap.objs.size := let ⟨_, e⟩ := hl; Heap.lt_size e
    refine wpAny_pyIter_list hl.isList ?_
    have W := Walks.list (prog := C.prog) (w := C.w) hA.hh s.heap.objs.size a (Nat.ne_of_lt hlt) vs.toArray
    have e : vs.toArray.size = l.length := by simp [hr.length]
    rw [e] at W
    refine h s.heap.objs.size _ _ _ _ ⟨_, _, rfl, KeepH.push _ _⟩ (Heap.get?_none_of_le (Nat.le_refl _)) (fun i h' hit => ?_) W ⟨⟨_, Heap.get?_push_size _ rfl, rfl, rfl⟩, hl.isList.push _⟩ (fun b hb => ?_) (fun i v hv => ?_) fun i v target Q' s' hv hst hQ => ?_
    · obtain ⟨⟨o, ho, hc, hd⟩, _⟩ := hit
      refine ⟨⟨o, ho⟩, fun m hm => ?_, fun v hv => ?_⟩
      · obtain ⟨o', _, _, e', d', _⟩ := hm
        rw [ho] at e'; cases e'; rw [hd] at d'; cases d'
      · obtain ⟨o', e', d'⟩ := hv
        rw [ho] at e'; cases e'; rw [hd] at d'; cases d'
    · rcases List.mem_cons.mp hb with q | q
      · exact .inl q
      · rw [List.mem_singleton.mp q]
        obtain ⟨k, e⟩ := hl
        exact .inr ⟨ha, _, e⟩
    · have hv' : vs[i]? = some v := by simpa using hv
      exact hr.get' hv'
    · exact letGo_listiter hst.1 hQ
theorem i_tup {l : List PV} : IterR C n (.tup l) l := by
  intro A P s v Q hA hP r h
  obtain ⟨a, vs, rfl, ha, hl, hr⟩ := r.tup_inv
  have hlt : a < s.heap.objs.size := hl.lt
  refine wpAny_pyIter_tuple hl ?_
  have W := Walks.tuple (prog := C.prog) (w := C.w) hA.hh s.heap.objs.size a (Nat.ne_of_lt hlt) vs.toArray
  have e : vs.toArray.size = l.length := by simp [hr.length]
  rw [e] at W
  refine h s.heap.objs.size _ _ _ _ ⟨_, _, rfl, KeepH.push _ _⟩ (Heap.get?_none_of_le (Nat.le_refl _)) (fun i h' hit => ?_) W ⟨⟨_, Heap.get?_push_size _ rfl, rfl, rfl⟩, hl.push _⟩ (fun b hb => ?_) (fun i v hv => ?_) fun i v target Q' s' hv hst hQ => ?_
  · obtain ⟨⟨o, ho, hc, hd⟩, _⟩ := hit
    refine ⟨⟨o, ho⟩, fun m hm => ?_, fun v hv => ?_⟩
    · obtain ⟨o', _, _, e', d', _⟩ := hm
      rw [ho] at e'; cases e'; rw [hd] at d'; cases d'
    · obtain ⟨o', e', d'⟩ := hv
      rw [ho] at e'; cases e'; rw [hd] at d'; cases d'
  · rcases List.mem_cons.mp hb with q | q
    · exact .inl q
    · rw [List.mem_singleton.mp q]
      obtain ⟨o, e, _⟩ := hl
      exact .inr ⟨ha, _, e⟩
  · have hv' : vs[i]? = some v := by simpa using hv
    exact hr.get' hv'
  · exact letGo_tupleiter hst.1 hQ
end
end Mine
end
section
open PySem PySem.W PyProof.Rows PySem.Calls
namespace Mine
section
variable {C : Cx} {n : Nat} {env : Env} {σ : Loc} {Φ : Out → Prop} {rest : List Stmt}

theorem xs_if {t : Expr} {body orelse : List Stmt} {pos : Pos} {b : Bool} (ht : EvB C n env σ t b) (h1 : b = true → ExS C n env σ body (thenS C n env rest Φ)) (h2 : b = false → ExS C n env σ orelse (thenS C n env rest Φ)) : ExS C n env σ (.If t body orelse pos :: rest) Φ :=
  .cons (.ite ht h1 h2)
theorem xs_nil {Ψ : Out → Prop} (h : ExS C n env σ rest Ψ) : ExS C n env σ [] (thenS C n env rest Ψ) := .nil h
theorem xs_ret {e : Expr} {pos : Pos} {p : PV} (he : EvE C n env σ e p) (ho : p.isOwn = false) (h : Φ (.ret p)) : ExS C n env σ (.Return (some e) pos :: rest) Φ := .cons (.ret he ho h)
theorem xs_retOwn {x : Str} {np pos : Pos} {l : List PV} (hs : σ.lookup x = some (.own l)) (hk : env.scope.kind = .function) (h : Φ (.ret (.lst l))) (hd : (x == ("__debug__" : Str)) = false) : ExS C n env σ (.Return (some (.Name x np)) pos :: rest) Φ := .cons (.retOwn hs hk h hd)
theorem xs_assign {x : Str} {np pos : Pos} {e : Expr} {p : PV} (he : EvE C n env σ e p) (ho : p.isOwn = false) (hx : Stored env x) (hs : swapsWith e (some (.Name x np)) pos.line env = pure false) (h : ExS C n env ((x, p) :: σ) rest Φ) : ExS C n env σ (.Assign [.Name x np] e pos :: rest) Φ :=
  .cons (.assign he ho hx h hs)
theorem xs_newOwn {x : Str} {np lp pos : Pos} (hk : env.scope.kind = .function) (hx : env.kindOf x = some .local) (h : ExS C n env ((x, .own []) :: σ) rest Φ) : ExS C n env σ (.Assign [.Name x np] (.List [] lp) pos :: rest) Φ := .cons (.newOwn hk hx h)
theorem xs_brk {pos : Pos} (h : Φ (.brk σ)) : ExS C n env σ (.Break pos :: rest) Φ := .cons (.brk h)
theorem xs_weak {st : List Stmt} (σ' : Loc) (k : ∀ q ∈ σ', σ.lookup q.1 = some q.2) (h : ExS C n env σ' st Φ) : ExS C n env σ st Φ := h.weaken (sub_of k)
theorem stored_local {x : Str} (hk : env.scope.kind = .function) (hx : env.kindOf x = some .local) : Stored env x := ⟨hk, .inl hx⟩
theorem stored_cell {x : Str} (hk : env.scope.kind = .function) (hf : env.func.isSome = true) (hx : env.kindOf x = some .cell) (hc : (env.cells.lookup x).isSome = true) : Stored env x := ⟨hk, .inr ⟨hf, hx, hc⟩⟩
theorem EvE.conv {e : Expr} {p q : PV} (h : EvE C n env σ e p) (k : p = q) : EvE C n env σ e q := k ▸ h
theorem EvB.conv {e : Expr} {p q : Bool} (h : EvB C n env σ e p) (k : p = q) : EvB C n env σ e q := k ▸ h
theorem Op2.conv {f : Value → Value → Sem Value} {a b c d : PV} (h : Op2 C n f a b c) (k : c = d) : Op2 C n f a b d := k ▸ h
theorem CallR.conv {f : Value} {as : List PV} {c d : PV} (h : CallR C n f as c) (k : c = d) : CallR C n f as d := k ▸ h
theorem CallR.le {f : Value} {as : List PV} {c : PV} {m : Nat} (h : CallR C m f as c) (k : m ≤ n) : CallR C n f as c := fun A P s vs hA => h A P s vs (hA.le k)
theorem EvE.iteI {t x y : Expr} {pos : Pos} {b : Bool} {i j : Int} (ht : EvB C n env σ t b) (h1 : b = true → EvE C n env σ x (.int i)) (h2 : b = false → EvE C n env σ y (.int j)) : EvE C n env σ (.IfExp t x y pos) (.int (bif b then i else j)) :=
  .ite ht (fun e => by subst e; exact h1 rfl) (fun e => by subst e; exact h2 rfl)
theorem EvE.plainTest {e : Expr} {b : Bool} (h : EvE C n env σ e (.bool b)) (hp : ∀ whole, isTrue e env whole = (do let v ← whole; standAt e.pos; holding [v] (truthy v))) : EvB C n env σ e b := .plain h .bool hp
end
end Mine
end
section
open PySem PySem.W PyProof.Rows PySem.Calls
namespace Mine

theorem sl_find : Slot "bytes" "find" "bytes.find" := .of (owner := "bytes") (n := "find") (by rw [typeLookup_type, builtinLookup_eq_fast]; kernel_rfl) (by decide +kernel) (by decide +kernel) (by decide +kernel) (by first | exact .inl (by decide +kernel) | exact .inr (by decide +kernel)) (by rw [isSubtype_type]; kernel_rfl)
theorem sl_split : Slot "bytes" "split" "bytes.split" := .of (owner := "bytes") (n := "split") (by rw [typeLookup_type, builtinLookup_eq_fast]; kernel_rfl) (by decide +kernel) (by decide +kernel) (by decide +kernel) (by first | exact .inl (by decide +kernel) | exact .inr (by decide +kernel)) (by rw [isSubtype_type]; kernel_rfl)
theorem sl_rstrip : Slot "bytes" "rstrip" "bytes.rstrip" := .of (owner := "bytes") (n := "rstrip") (by rw [typeLookup_type, builtinLookup_eq_fast]; kernel_rfl) (by decide +kernel) (by decide +kernel) (by decide +kernel) (by first | exact .inl (by decide +kernel) | exact .inr (by decide +kernel)) (by rw [isSubtype_type]; kernel_rfl)
theorem sl_join : Slot "bytes" "join" "bytes.join" := .of (owner := "bytes") (n := "join") (by rw [typeLookup_type, builtinLookup_eq_fast]; kernel_rfl) (by decide +kernel) (by decide +kernel) (by decide +kernel) (by first | exact .inl (by decide +kernel) | exact .inr (by decide +kernel)) (by rw [isSubtype_type]; kernel_rfl)
theorem ty_find : typeOf (.builtin "bytes.find") = pure (.type "method_descriptor") := by show builtinType _ = _; rw [builtinType_eq_fast]; kernel_rfl
theorem ty_split : typeOf (.builtin "bytes.split") = pure (.type "method_descriptor") := by show builtinType _ = _; rw [builtinType_eq_fast]; kernel_rfl
theorem ty_rstrip : typeOf (.builtin "bytes.rstrip") = pure (.type "method_descriptor") := by show builtinType _ = _; rw [builtinType_eq_fast]; kernel_rfl
theorem ty_join : typeOf (.builtin "bytes.join") = pure (.type "method_descriptor") := by show builtinType _ = _; rw [builtinType_eq_fast]; kernel_rfl
theorem en_find : entryFor table "bytes.find" = some Builtin.«bytes.find» := entryFor_of_tree (by kernel_rfl)
theorem en_split : entryFor table "bytes.split" = some Builtin.«bytes.split» := entryFor_of_tree (by kernel_rfl)
theorem en_rstrip : entryFor table "bytes.rstrip" = some Builtin.«bytes.rstrip» := entryFor_of_tree (by kernel_rfl)
theorem en_join : entryFor table "bytes.join" = some Builtin.«bytes.join» := entryFor_of_tree (by kernel_rfl)
theorem ar_find2 (a b : Value) : argsOk "bytes.find" ⟨[a, b], []⟩ := by unfold argsOk; kernel_rfl
theorem ar_find3 (a b c : Value) : argsOk "bytes.find" ⟨[a, b, c], []⟩ := by unfold argsOk; kernel_rfl
theorem ar_find4 (a b c d : Value) : argsOk "bytes.find" ⟨[a, b, c, d], []⟩ := by unfold argsOk; kernel_rfl
theorem ar_split (a b : Value) : argsOk "bytes.split" ⟨[a, b], []⟩ := by unfold argsOk; kernel_rfl
theorem ar_rstrip (a b : Value) : argsOk "bytes.rstrip" ⟨[a, b], []⟩ := by unfold argsOk; kernel_rfl
theorem ar_join (a b : Value) : argsOk "bytes.join" ⟨[a, b], []⟩ := by unfold argsOk; kernel_rfl

section
variable {C : Cx} {n : Nat}
theorem m_bytes {l : List UInt8} {name : Str} {id : String} (sl : Slot "bytes" name id) (ty : typeOf (.builtin id) = pure (.type "method_descriptor")) : MethR C (.bytes l) name id := by
  intro A P s v pl Q r h
  obtain ⟨t, rfl⟩ := r.bytes_inv
  exact KBd.method_of _ (typeIs_bytes _ _ _) sl ty KBd.noRef h
theorem m_find {l : List UInt8} : MethR C (.bytes l) "find" "bytes.find" := m_bytes sl_find ty_find
theorem m_split {l : List UInt8} : MethR C (.bytes l) "split" "bytes.split" := m_bytes sl_split ty_split
theorem m_rstrip {l : List UInt8} : MethR C (.bytes l) "rstrip" "bytes.rstrip" := m_bytes sl_rstrip ty_rstrip
theorem m_join {l : List UInt8} : MethR C (.bytes l) "join" "bytes.join" := m_bytes sl_join ty_join

/-! rstrip -/
noncomputable def rstripB (b set : List UInt8) : List UInt8 := (b.reverse.dropWhile set.contains).reverse
theorem rstrip_tree {b set : Array UInt8} {t u : Tok} : Builtin.«bytes.rstrip» ⟨[.bytes b t, .bytes set u], []⟩ =
    (if ((b.toList.reverse.dropWhile set.contains).reverse).length == b.size then (do rule "bytes.rstrip.unchanged"; ret (← Builtin.Bytes.Kind.same .bytes (.bytes b t))) else (do ret (← mkBytes ((b.toList.reverse.dropWhile set.contains).reverse).toArray))) := by
  kernel_rfl
end
end Mine
end
section
open PySem PySem.W PyProof.Rows PySem.Calls
namespace Mine
section
variable {C : Cx} {n : Nat}

theorem dropWhile_full {α : Type} {p : α → Bool} : ∀ {l : List α}, (l.dropWhile p).length = l.length → l.dropWhile p = l
  | [], _ => rfl
  | a :: l, h => by
    rw [List.dropWhile_cons] at h ⊢
    split
    · rename_i hp
      rw [if_pos hp] at h
      have := List.dropWhile_suffix p (l := l) |>.length_le
      simp at h; omega
    · rfl
theorem contains_arr (set : List UInt8) : set.toArray.contains = fun c => set.contains c := by funext c; simp
theorem rstrip_len (b set : List UInt8) : (rstripB b set).length ≤ b.length := by
  unfold rstripB
  rw [List.length_reverse]
  have := (List.dropWhile_suffix (set.contains) (l := b.reverse)).length_le
  rw [List.length_reverse] at this
  exact this
theorem c_rstrip {b set : List UInt8} (hz : b.length ≤ 16777216) : CallR C n (.builtin "bytes.rstrip") [.bytes b, .bytes set] (.bytes (rstripB b set)) := by
  intro A P s vs hA _ _ r
  obtain ⟨v, u, rfl, q, q'⟩ := r.two
  obtain ⟨t, rfl⟩ := q.bytes_inv
  obtain ⟨t', rfl⟩ := q'.bytes_inv
  refine call_meets (S := fun _ R s₀ => ∀ t' k, R (.ok (.ret (.bytes (rstripB b set).toArray t'))) { s₀ with toks := k }) sl_rstrip (typeIs_bytes _ _ _) en_rstrip (ar_rstrip _ _) (.of_wp fun prog w A R s₀ hS => ?_) fun t' k => ⟨.inl (.bytes _ _), keepsTok s _⟩
  rw [rstrip_tree]
  have e : ((b.toArray.toList.reverse.dropWhile set.toArray.contains).reverse) = rstripB b set := by
    rw [contains_arr]; rfl
  rw [e]
  split
  · rename_i hl
    have hb : rstripB b set = b := by
      simp only [List.size_toArray, beq_iff_eq] at hl
      unfold rstripB at hl ⊢
      rw [List.length_reverse] at hl
      rw [dropWhile_full (by rw [hl, List.length_reverse]), List.reverse_reverse]
    have h1 := hS t s₀.toks
    rw [hb] at h1
    refine wpAny_bind (wpAny_rule ?_)
    refine wpAny_bind (wpAny_of_eq (a := .bytes b.toArray t) (by kernel_rfl) ?_)
    exact wpAny_pure ⟨_, rfl, h1⟩
  · refine wpAny_bind (wpAny_mkBytes (wpAny_pure ⟨_, rfl, hS _ _⟩) ?_)
    rw [sizeLine_eq]
    have := rstrip_len b set
    simp only [List.size_toArray]; omega

/-! find -/
noncomputable def findB (b : List UInt8) (c : UInt8) (lo : Nat) : Int := if c ∈ b.drop lo then ((lo + (b.drop lo).idxOf c : Nat) : Int) else -1
theorem find3_tree {b : Array UInt8} {c : UInt8} {t u x : Tok} {lo : Int} : Builtin.«bytes.find» ⟨[.bytes b t, .bytes #[c] u, .int lo x], []⟩ =
    (match (if (Builtin.Bytes.window b.size (some lo) none).2 - (Builtin.Bytes.window b.size (some lo) none).1 < ((#[c] : Array UInt8).size : Int) then none else some ((Builtin.Bytes.window b.size (some lo) none).1.toNat, (Builtin.Bytes.window b.size (some lo) none).2.toNat)).bind (fun (p : Nat × Nat) => Builtin.Bytes.find? b #[c] p.1 p.2) with
      | some i => retInt i
      | none => (do rule "bytes.find.not-found"; retInt (-1))) := by kernel_rfl
theorem find4_tree {b : Array UInt8} {c : UInt8} {t u x y : Tok} {lo hi : Int} : Builtin.«bytes.find» ⟨[.bytes b t, .bytes #[c] u, .int lo x, .int hi y], []⟩ =
    (match (if (Builtin.Bytes.window b.size (some lo) (some hi)).2 - (Builtin.Bytes.window b.size (some lo) (some hi)).1 < ((#[c] : Array UInt8).size : Int) then none else some ((Builtin.Bytes.window b.size (some lo) (some hi)).1.toNat, (Builtin.Bytes.window b.size (some lo) (some hi)).2.toNat)).bind (fun (p : Nat × Nat) => Builtin.Bytes.find? b #[c] p.1 p.2) with
      | some i => retInt i
      | none => (do rule "bytes.find.not-found"; retInt (-1))) := by kernel_rfl
theorem extract_one {b : List UInt8} {i : Nat} {c : UInt8} : (b.toArray.extract i (i + (#[c] : Array UInt8).size) == #[c]) = (b[i]? == some c) := by
  have e : b.toArray.extract i (i + (#[c] : Array UInt8).size) = ((b.drop i).take 1).toArray := by
    simp
  rw [e]
  cases h : b[i]? with
  | none => 
    have : b.drop i = [] := by rw [List.drop_eq_nil_iff]; exact List.getElem?_eq_none_iff.mp h
    rw [this]; rfl
  | some d =>
    obtain ⟨hi, rfl⟩ := List.getElem?_eq_some_iff.mp h
    rw [List.drop_eq_getElem_cons hi]
    show (([b[i]] : List UInt8).toArray == #[c]) = _
    by_cases q : b[i] = c <;> simp [q]
theorem find_range {b : List UInt8} {c : UInt8} : ∀ (k lo : Nat), lo + k = b.length → (((List.range k).map (· + lo)).find? fun i => b[i]? == some c) = if c ∈ b.drop lo then some (lo + (b.drop lo).idxOf c) else none
  | 0, lo, h => by
    have : b.drop lo = [] := by rw [List.drop_eq_nil_iff]; omega
    simp [this]
  | k + 1, lo, h => by
    have hi : lo < b.length := by omega
    have hd := List.drop_eq_getElem_cons hi
    have ih := find_range (b := b) (c := c) k (lo + 1) (by omega)
    rw [List.range_succ_eq_map, List.map_cons, List.map_map, List.find?_cons]
    have hm : List.map ((fun x => x + lo) ∘ Nat.succ) (List.range k) = List.map (· + (lo + 1)) (List.range k) := by
      apply List.map_congr_left
      intro a _
      show a + 1 + lo = a + (lo + 1)
      omega
    rw [hm, ih, hd]
    have h0 : b[0 + lo]? = some b[lo] := by rw [Nat.zero_add, List.getElem?_eq_getElem hi]
    rw [h0]
    by_cases q : b[lo] = c
    · subst q
      generalize b.drop (lo + 1) = r
      generalize b[lo] = d
      simp
    · have q' : ¬ c = b[lo] := fun e => q e.symm
      have e1 : (some b[lo] == some c) = false := by simp [q]
      rw [e1]
      simp only [List.mem_cons, q', false_or]
      rw [List.idxOf_cons]
      have e2 : (b[lo] == c) = false := by simp [q]
      rw [e2]
      simp only [cond_false]
      split <;> simp; omega
theorem find_eq {b : List UInt8} {c : UInt8} {lo : Nat} (h : lo < b.length) : Builtin.Bytes.find? b.toArray #[c] lo b.length = if c ∈ b.drop lo then some (lo + (b.drop lo).idxOf c) else none := by
  unfold Builtin.Bytes.find?
  simp only [extract_one]
  have e : b.length + 1 - (lo + (#[c] : Array UInt8).size) = b.length - lo := by simp
  rw [e]
  exact find_range _ _ (by omega)
theorem find_tail {C : Cx} {A : Around} {E : Value → Shared → Prop} {b : List UInt8} {c : UInt8} {lo : Nat} {M : Model} {R : Result → Shared → Prop} {s₀ : Shared} (hS : ∀ t' k, R (.ok (.ret (.int (findB b c lo) t'))) { s₀ with toks := k }) {w : Option (Nat × Nat)}
    (hw : w = if b.length ≤ lo then none else some (lo, b.length)) : wpAny M A (match w.bind (fun (p : Nat × Nat) => Builtin.Bytes.find? b.toArray #[c] p.1 p.2) with
      | some i => retInt i
      | none => (do rule "bytes.find.not-found"; retInt (-1))) (fun fin s' => ∃ v, fin = .done (.ret v) ∧ R (.ok (.ret v)) s') E s₀ := by
  subst hw
  by_cases h : b.length ≤ lo
  · rw [if_pos h]
    have hd : b.drop lo = [] := by rw [List.drop_eq_nil_iff]; exact h
    unfold findB at hS
    rw [hd, if_neg (by simp)] at hS
    exact wpAny_bind (wpAny_rule (wpAny_bind (wpAny_mkInt (wpAny_pure ⟨_, rfl, hS _ _⟩))))
  · rw [if_neg h]
    show wpAny _ _ (match Builtin.Bytes.find? b.toArray #[c] lo b.length with | some i => _ | none => _) _ _ _
    rw [find_eq (by omega)]
    unfold findB at hS
    split at hS
    · rename_i hm
      rw [if_pos hm]
      exact wpAny_bind (wpAny_mkInt (wpAny_pure ⟨_, rfl, hS _ _⟩))
    · rename_i hm
      rw [if_neg hm]
      exact wpAny_bind (wpAny_rule (wpAny_bind (wpAny_mkInt (wpAny_pure ⟨_, rfl, hS _ _⟩))))
theorem c_find3 {b : List UInt8} {c : UInt8} {lo : Nat} : CallR C n (.builtin "bytes.find") [.bytes b, .bytes [c], .int lo] (.int (findB b c lo)) := by
  intro A P s vs hA _ _ r
  obtain ⟨v, u, x, rfl, q, q', q''⟩ := r.three
  obtain ⟨t, rfl⟩ := q.bytes_inv
  obtain ⟨t', rfl⟩ := q'.bytes_inv
  obtain ⟨t'', rfl⟩ := q''.int_inv
  refine call_meets (S := fun _ R s₀ => ∀ t' k, R (.ok (.ret (.int (findB b c lo) t'))) { s₀ with toks := k }) sl_find (typeIs_bytes _ _ _) en_find (ar_find3 _ _ _) (.of_wp fun prog w A R s₀ hS => ?_) fun t' k => ⟨.inl (.int _ _), keepsTok s _⟩
  show wpAny _ _ (Builtin.«bytes.find» ⟨[.bytes b.toArray t, .bytes #[c] t', .int lo t''], []⟩) _ _ _
  rw [find3_tree]
  refine find_tail (C := C) hS ?_
  have e1 : (Builtin.Bytes.window b.toArray.size (some (lo : Int)) none) = ((lo : Int), (b.length : Int)) := by
    unfold Builtin.Bytes.window
    simp
    omega
  rw [e1]
  by_cases h : b.length ≤ lo
  · rw [if_pos h, if_pos]; simp; omega
  · rw [if_neg h, if_neg]; · simp
    simp; omega
theorem c_find4 {b : List UInt8} {c : UInt8} {lo : Nat} {hi : Int} (hh : hi = b.length) : CallR C n (.builtin "bytes.find") [.bytes b, .bytes [c], .int lo, .int hi] (.int (findB b c lo)) := by
  subst hh
  intro A P s vs hA _ _ r
  obtain ⟨v, u, x, y, rfl, q, q', q'', q3⟩ := r.four
  obtain ⟨t, rfl⟩ := q.bytes_inv
  obtain ⟨t', rfl⟩ := q'.bytes_inv
  obtain ⟨t'', rfl⟩ := q''.int_inv
  obtain ⟨t3, rfl⟩ := q3.int_inv
  refine call_meets (S := fun _ R s₀ => ∀ t' k, R (.ok (.ret (.int (findB b c lo) t'))) { s₀ with toks := k }) sl_find (typeIs_bytes _ _ _) en_find (ar_find4 _ _ _ _) (.of_wp fun prog w A R s₀ hS => ?_) fun t' k => ⟨.inl (.int _ _), keepsTok s _⟩
  show wpAny _ _ (Builtin.«bytes.find» ⟨[.bytes b.toArray t, .bytes #[c] t', .int lo t'', .int b.length t3], []⟩) _ _ _
  rw [find4_tree]
  refine find_tail (C := C) hS ?_
  have e1 : (Builtin.Bytes.window b.toArray.size (some (lo : Int)) (some (b.length : Int))) = ((lo : Int), (b.length : Int)) := by
    unfold Builtin.Bytes.window
    simp
    omega
  rw [e1]
  by_cases h : b.length ≤ lo
  · rw [if_pos h, if_pos]; simp; omega
  · rw [if_neg h, if_neg]; · simp
    simp; omega
end
end Mine
end
section
open PySem PySem.W PyProof.Rows PySem.Calls
namespace Mine
/-- split at CR LF -/
noncomputable def splitC : List UInt8 → List (List UInt8)
  | [] => [[]]
  | c :: r => match r with
    | [] => [[c]]
    | d :: r' => if c = 13 ∧ d = 10 then [] :: splitC r' else match splitC (d :: r') with
      | [] => [[c]]
      | h :: tl => (c :: h) :: tl
/-- where CR LF stands -/
noncomputable def occC : Nat → List UInt8 → List Nat
  | _, [] => []
  | i, c :: r => match r with
    | [] => []
    | d :: r' => if c = 13 ∧ d = 10 then i :: occC (i + 2) r' else occC (i + 1) (d :: r')
theorem splitC_two {c d : UInt8} {r : List UInt8} (h : c = 13 ∧ d = 10) : splitC (c :: d :: r) = [] :: splitC r := by
  rw [splitC]; rw [if_pos h]
theorem splitC_one {c d : UInt8} {r : List UInt8} (h : ¬ (c = 13 ∧ d = 10)) : splitC (c :: d :: r) = match splitC (d :: r) with
      | [] => [[c]]
      | h :: tl => (c :: h) :: tl := by
  rw [splitC]; rw [if_neg h]
theorem occC_two {i : Nat} {c d : UInt8} {r : List UInt8} (h : c = 13 ∧ d = 10) : occC i (c :: d :: r) = i :: occC (i + 2) r := by
  rw [occC]; rw [if_pos h]
theorem occC_one {i : Nat} {c d : UInt8} {r : List UInt8} (h : ¬ (c = 13 ∧ d = 10)) : occC i (c :: d :: r) = occC (i + 1) (d :: r) := by
  rw [occC]; rw [if_neg h]
theorem extract_two {b : List UInt8} {i : Nat} : (b.toArray.extract i (i + (#[13, 10] : Array UInt8).size) == #[13, 10]) = (b[i]? == some 13 && b[i + 1]? == some 10) := by
  have e : b.toArray.extract i (i + (#[13, 10] : Array UInt8).size) = ((b.drop i).take 2).toArray := by
    simp
  rw [e]
  have e0 : b[i]? = (b.drop i)[0]? := by simp
  have e1 : b[i + 1]? = (b.drop i)[1]? := by simp
  rw [e0, e1]
  generalize b.drop i = r
  match r with
  | [] => rfl
  | [a] => by_cases q : a = 13 <;> simp [q]
  | a :: d :: r => 
    show (([a, d] : List UInt8).toArray == #[13, 10]) = _
    by_cases q : a = 13 <;> by_cases q' : d = 10 <;> simp [q, q']

noncomputable def stepC (b : Array UInt8) (acc : List Nat × Nat) (i : Nat) : List Nat × Nat := if i ≥ acc.2 && b.extract i (i + (#[13, 10] : Array UInt8).size) == #[13, 10] then (i :: acc.1, i + (#[13, 10] : Array UInt8).size) else acc
theorem stepC_eq {b : List UInt8} {acc : List Nat} {nf i : Nat} : stepC b.toArray (acc, nf) i = if i ≥ nf && (b[i]? == some 13 && b[i + 1]? == some 10) then (i :: acc, i + 2) else (acc, nf) := by
  unfold stepC
  rw [extract_two]
  rfl
theorem fold_occ {b : List UInt8} : ∀ (k i nf : Nat) (acc : List Nat), i + k + 1 = b.length ∨ (k = 0 ∧ b.length ≤ i + 1) → nf ≤ i → ((List.range' i k).foldl (stepC b.toArray) (acc, nf)).1 = (occC i (b.drop i)).reverse ++ acc
  | 0, i, nf, acc, h, hn => by
    have hl : (b.drop i).length ≤ 1 := by rw [List.length_drop]; omega
    match b.drop i, hl with
    | [], _ => rfl
    | [a], _ => rfl
  | k + 1, i, nf, acc, h, hn => by
    have hlen : i + 1 < b.length := by omega
    rw [List.range'_succ, List.foldl_cons, stepC_eq]
    have hd : b.drop i = b[i] :: b[i + 1] :: b.drop (i + 2) := by
      rw [List.drop_eq_getElem_cons (by omega), List.drop_eq_getElem_cons hlen]
    have g0 : b[i]? = some b[i] := List.getElem?_eq_getElem (by omega)
    have g1 : b[i + 1]? = some b[i + 1] := List.getElem?_eq_getElem hlen
    have hd1 : b.drop (i + 1) = b[i + 1] :: b.drop (i + 2) := List.drop_eq_getElem_cons hlen
    rw [hd, g0, g1]
    by_cases q : b[i] = 13 ∧ b[i + 1] = 10
    · rw [occC_two q, if_pos (by simp [q.1, q.2, hn])]
      -- the next place is skipped
      cases k with
      | zero =>
        have : (b.drop (i + 2)) = [] := by rw [List.drop_eq_nil_iff]; omega
        rw [this]
        simp [occC]
      | succ k =>
        rw [List.range'_succ, List.foldl_cons, stepC_eq, if_neg (by simp)]
        rw [fold_occ k (i + 2) (i + 2) (i :: acc) (by omega) (by omega)]
        simp
    · rw [occC_one q, if_neg (by intro hh; simp only [Bool.and_eq_true, beq_iff_eq, Option.some.injEq] at hh; exact q hh.2), fold_occ k (i + 1) nf acc (by omega) (by omega), hd1]
theorem occurrences_eq {b : List UInt8} : Builtin.Bytes.occurrences b.toArray #[13, 10] 0 b.length = occC 0 b := by
  have e : Builtin.Bytes.occurrences b.toArray #[13, 10] 0 b.length = ((((List.range (b.length + 1 - (0 + (#[13, 10] : Array UInt8).size))).map (· + 0)).foldl (stepC b.toArray) ([], 0)).1).reverse := rfl
  rw [e]
  have e2 : (List.range (b.length + 1 - (0 + (#[13, 10] : Array UInt8).size))).map (· + 0) = List.range' 0 (b.length - 1) := by
    rw [List.range_eq_range']
    simp
  rw [e2, fold_occ (b.length - 1) 0 0 [] (by omega) (Nat.le_refl _)]
  simp
theorem occC_len : ∀ (k i : Nat) (l : List UInt8), l.length ≤ k → (occC i l).length ≤ l.length
  | _, i, [], _ => by simp [occC]
  | _, i, [a], _ => by simp [occC]
  | 0, i, a :: d :: r, h => by simp at h
  | k + 1, i, a :: d :: r, h => by
    by_cases q : a = 13 ∧ d = 10
    · rw [occC_two q]
      have := occC_len k (i + 2) r (by simp at h; omega)
      simp; omega
    · rw [occC_one q]
      have := occC_len k (i + 1) (d :: r) (by simpa using h)
      simp at this ⊢; omega
theorem fold_between {b : List UInt8} : ∀ (m i last : Nat) (parts : Array (Array UInt8)), (b.drop i).length ≤ m → last ≤ i → i ≤ b.length → ∃ h tl, splitC (b.drop i) = h :: tl ∧
    (let r := (occC i (b.drop i)).foldl (fun (x : Array (Array UInt8) × Nat) p => (x.1.push (b.toArray.extract x.2 p), p + 2)) (parts, last)
     (r.1.push (b.toArray.extract r.2 b.length)).toList) = parts.toList ++ (((b.drop last).take (i - last) ++ h).toArray :: tl.map (·.toArray))
  | m, i, last, parts, hm, hl, hi => by
    have ex : ∀ p q : Nat, b.toArray.extract p q = ((b.drop p).take (q - p)).toArray := fun p q => by simp
    have dt : last ≤ i → b.drop last = (b.drop last).take (i - last) ++ b.drop i := fun h => by
      conv => lhs; rw [← List.take_append_drop (i - last) (b.drop last)]
      rw [List.drop_drop]
      congr 2
      omega
    have whole : ∀ r, b.drop i = r → (b.drop last).take (b.length - last) = (b.drop last).take (i - last) ++ r := fun r hr => by
      rw [List.take_of_length_le (by rw [List.length_drop]; exact Nat.le_refl _)]
      rw [← hr]; exact dt hl
    match hd : b.drop i with
    | [] =>
      refine ⟨[], [], rfl, ?_⟩
      simp [occC, ex, whole _ hd]
    | [a] =>
      refine ⟨[a], [], by simp [splitC], ?_⟩
      simp [occC, ex, whole _ hd]
    | a :: d :: r =>
      have hlen := congrArg List.length hd
      rw [List.length_drop] at hlen
      simp only [List.length_cons] at hlen
      have hlen2 : b.length - i = r.length + 2 := hlen
      have hm2 : b.length - i ≤ m := by rw [List.length_drop] at hm; exact hm
      have hd2 : b.drop (i + 2) = r := by rw [← List.drop_drop, hd]; rfl
      have hd1 : b.drop (i + 1) = d :: r := by rw [← List.drop_drop, hd]; rfl
      cases m with
      | zero => omega
      | succ m =>
        by_cases q : a = 13 ∧ d = 10
        · rw [splitC_two q, occC_two q]
          obtain ⟨h, tl, e1, e2⟩ := fold_between (b := b) m (i + 2) (i + 2) (parts.push (b.toArray.extract last i)) (by rw [List.length_drop]; omega) (Nat.le_refl _) (by omega)
          rw [hd2] at e1 e2
          refine ⟨[], splitC r, rfl, ?_⟩
          rw [List.foldl_cons]
          simp only at e2 ⊢
          rw [e2, e1]
          simp [ex]
        · rw [splitC_one q, occC_one q]
          obtain ⟨h, tl, e1, e2⟩ := fold_between (b := b) m (i + 1) last parts (by rw [List.length_drop]; omega) (by omega) (by omega)
          rw [hd1] at e1 e2
          refine ⟨a :: h, tl, by rw [e1], ?_⟩
          simp only at e2 ⊢
          rw [e2]
          have : (b.drop last).take (i + 1 - last) = (b.drop last).take (i - last) ++ [a] := by
            have hx := dt hl
            rw [hd] at hx
            conv => lhs; rw [hx]
            rw [List.take_append]
            have hl2 : ((b.drop last).take (i - last)).length = i - last := by rw [List.length_take, List.length_drop]; omega
            rw [hl2, List.take_of_length_le (by rw [hl2]; omega)]
            have : i + 1 - last - (i - last) = 1 := by omega
            rw [this]; rfl
          rw [this]
          simp
theorem between_eq {b : List UInt8} : Builtin.Bytes.between b.toArray 2 (occC 0 b) = (splitC b).map (·.toArray) := by
  obtain ⟨h, tl, e1, e2⟩ := fold_between (b := b) b.length 0 0 #[] (by simp) (Nat.le_refl _) (Nat.zero_le _)
  rw [List.drop_zero] at e1 e2
  have e : Builtin.Bytes.between b.toArray 2 (occC 0 b) = (let r := (occC 0 b).foldl (fun (x : Array (Array UInt8) × Nat) p => (x.1.push (b.toArray.extract x.2 p), p + 2)) (#[], 0)
     (r.1.push (b.toArray.extract r.2 b.length)).toList) := rfl
  rw [e, e2, e1]
  simp
end Mine
end
section
open PySem PySem.W PyProof.Rows PySem.Calls
namespace Mine
section
variable {C : Cx} {n : Nat}
theorem wp_mkAll {M : Model} {A : Around} {E : Value → Shared → Prop} {P : List Addr} {h : Heap} : ∀ (l : List (List UInt8)) {s : Shared} {Q : List Value → Shared → Prop}, (∀ x ∈ l, x.length ≤ 16777216) →
    (∀ vs tk, RepAll C P h vs (l.map .bytes) → vs.length = l.length → Q vs { s with toks := tk }) → wpAny M A ((l.map (·.toArray)).mapM mkBytes) Q E s
  | [], s, Q, _, hQ => by rw [List.map_nil, List.mapM_nil]; exact wpAny_pure (hQ [] s.toks .nil rfl)
  | x :: l, s, Q, hz, hQ => by
    rw [List.map_cons, List.mapM_cons]
    refine wpAny_bind (wpAny_mkBytes ?_ (by rw [sizeLine_eq]; exact hz x (.head _)))
    refine wpAny_bind (wp_mkAll (P := P) (h := h) l (fun y hy => hz y (.tail _ hy)) fun vs tk hr hl => wpAny_pure ?_)
    exact hQ _ tk (.cons (.bytes _ _) hr) (by simp [hl])
theorem split_tree {b : Array UInt8} {t u : Tok} : Builtin.«bytes.split» ⟨[.bytes b t, .bytes #[13, 10] u], []⟩ =
    (if ((Builtin.Bytes.occurrences b #[13, 10] 0 b.size).take (b.size + 1)).isEmpty = true then (do rule "bytes.split.no-separator"; ret (← newList [← Builtin.Bytes.Kind.same .bytes (.bytes b t)]))
     else (do ret (← newList (← (Builtin.Bytes.between b (#[13, 10] : Array UInt8).size ((Builtin.Bytes.occurrences b #[13, 10] 0 b.size).take (b.size + 1))).mapM mkBytes)))) := by kernel_rfl
theorem splitC_le : ∀ (k : Nat) (l : List UInt8), l.length ≤ k → (splitC l).length ≤ l.length + 1 ∧ ∀ x ∈ splitC l, x.length ≤ l.length
  | _, [], _ => by simp [splitC]
  | _, [a], _ => by simp [splitC]
  | 0, a :: d :: r, h => by simp at h
  | k + 1, a :: d :: r, h => by
    by_cases q : a = 13 ∧ d = 10
    · rw [splitC_two q]
      have := splitC_le k r (by simp at h; omega)
      refine ⟨by simp; omega, fun x hx => ?_⟩
      rcases List.mem_cons.mp hx with rfl | hx
      · simp
      · have := this.2 x hx; simp; omega
    · rw [splitC_one q]
      have := splitC_le k (d :: r) (by simpa using h)
      cases e : splitC (d :: r) with
      | nil => rw [e] at this; simp
      | cons y tl =>
        rw [e] at this
        refine ⟨by have := this.1; simp at this ⊢; omega, fun x hx => ?_⟩
        rcases List.mem_cons.mp hx with rfl | hx
        · have := this.2 y (.head _); simp at this ⊢; omega
        · have := this.2 x (.tail _ hx); simp at this ⊢; omega
theorem splitC_noocc : ∀ (k i : Nat) (l : List UInt8), l.length ≤ k → occC i l = [] → splitC l = [l]
  | _, _, [], _, _ => rfl
  | _, _, [a], _, _ => rfl
  | 0, _, a :: d :: r, h, _ => by simp at h
  | k + 1, i, a :: d :: r, h, e => by
    by_cases q : a = 13 ∧ d = 10
    · rw [occC_two q] at e; cases e
    · rw [occC_one q] at e
      rw [splitC_one q, splitC_noocc k (i + 1) (d :: r) (by simpa using h) e]
theorem c_split {b : List UInt8} (hz : b.length ≤ 1000000) : CallR C n (.builtin "bytes.split") [.bytes b, .bytes [13, 10]] (.lst ((splitC b).map .bytes)) := by
  intro A P s vs hA _ hP r
  obtain ⟨v, u, rfl, q, q'⟩ := r.two
  obtain ⟨t, rfl⟩ := q.bytes_inv
  obtain ⟨t', rfl⟩ := q'.bytes_inv
  refine call_meets (S := fun _ R s₀ => s₀.heap = s.heap ∧ ∀ vs tk, RepAll C P s.heap vs ((splitC b).map .bytes) → R (.ok (.ret (.ref s₀.heap.objs.size))) { s₀ with heap := s₀.heap.push { cls := .type "list", data := .seq vs.toArray }, toks := tk }) sl_split (typeIs_bytes _ _ _) en_split (ar_split _ _) (.of_wp fun prog w A R s₀ hS => ?_) ⟨rfl, fun vs tk hr => ?_⟩
  · obtain ⟨hs, hS⟩ := hS
    show wpAny _ _ (Builtin.«bytes.split» ⟨[.bytes b.toArray t, .bytes #[13, 10] t'], []⟩) _ _ _
    rw [split_tree]
    have e : (Builtin.Bytes.occurrences b.toArray #[13, 10] 0 b.toArray.size).take (b.toArray.size + 1) = occC 0 b := by
      rw [List.size_toArray, occurrences_eq, List.take_of_length_le]
      have := occC_len b.length 0 b (Nat.le_refl _)
      omega
    rw [e]
    split
    · rename_i hn
      have e2 := splitC_noocc b.length 0 b (Nat.le_refl _) (List.isEmpty_iff.mp hn)
      rw [e2] at hS
      refine wpAny_bind (wpAny_rule ?_)
      refine wpAny_bind (wpAny_of_eq (a := .bytes b.toArray t) (by kernel_rfl) ?_)
      refine wpAny_bind (wpAny_newList ?_ ?_)
      · exact wpAny_pure ⟨_, rfl, hS [.bytes b.toArray t] s₀.toks (.cons (.bytes _ _) .nil)⟩
      · rw [sizeLine_eq]; exact Nat.le_of_ble_eq_true rfl
    · show wpAny _ _ (do ret (← newList (← (Builtin.Bytes.between b.toArray 2 (occC 0 b)).mapM mkBytes))) _ _ _
      rw [between_eq]
      have hle := splitC_le b.length b (Nat.le_refl _)
      refine wpAny_bind (wp_mkAll (C := C) (P := P) (h := s.heap) (splitC b) (fun x hx => by have := hle.2 x hx; omega) fun vs tk hr hl => ?_)
      refine wpAny_bind (wpAny_newList (wpAny_pure ⟨_, rfl, hS vs tk hr⟩) ?_)
      rw [sizeLine_eq]; have := hle.1; omega
  · exact ⟨.inl (.lst hP.fresh ⟨0, Heap.get?_push_size _ rfl⟩ (hr.keep (KeepH.push _ _))), ⟨_, _, rfl, KeepH.push _ _⟩⟩
end
end Mine
end
section
open PySem PySem.W PyProof.Rows PySem.Calls
namespace Mine
theorem ifF {α : Type} {M : Model} {A : Around} {c : Bool} {a b : Sem α} {Q : α → Shared → Prop} {E : Value → Shared → Prop} {s : Shared} (hc : c = false) (h : wpAny M A b Q E s) : wpAny M A (if c = true then a else b) Q E s := by
  subst hc
  exact h
theorem forIn_idx {M : Model} {A : Around} {E : Value → Shared → Prop} {s : Shared} {β : Type} {F : Nat → β → Sem (ForInStep β)} (g : Nat → β) (step : ∀ (i : Nat) (Q : ForInStep β → Shared → Prop), Q (.yield (g (i + 1))) s → wpAny M A (F i (g i)) Q E s) :
    ∀ (m i : Nat) (Q : β → Shared → Prop), Q (g (i + m)) s → wpAny M A (forIn (List.range' i m 1) (g i) F) Q E s
  | 0, i, Q, h => by
    rw [List.range'_zero, List.forIn_nil]
    exact wpAny_pure h
  | m + 1, i, Q, h => by
    rw [List.range'_succ, List.forIn_cons]
    exact wpAny_bind (step i _ (forIn_idx g step m (i + 1) Q (by rw [show i + 1 + m = i + (m + 1) by omega]; exact h)))
theorem takeQ_eq {b : Array UInt8} {t : Tok} : Builtin.Bytes.takeBufferQuiet? (toString Builtin.Bytes.Kind.bytes.name ++ toString ".join") (.bytes b t) 0 = pure (some (b, none)) := by kernel_rfl

/-- the arrays of a list of bytes values -/
theorem reps_bytes {C : Cx} {P : List Addr} {h : Heap} : ∀ {vs : List Value} {bs : List (List UInt8)}, RepAll C P h vs (bs.map .bytes) → ∃ ts : List Tok, ts.length = bs.length ∧ vs = (bs.zip ts).map fun p => .bytes p.1.toArray p.2
  | [], [], _ => ⟨[], rfl, rfl⟩
  | v :: vs, [], r => nomatch r
  | [], b :: bs, r => nomatch r
  | v :: vs, b :: bs, .cons a r => by
    obtain ⟨ts, hl, e⟩ := reps_bytes r
    cases a with
    | bytes _ t => exact ⟨t :: ts, by simp [hl], by simp [e]⟩
theorem forIn_idx' {M : Model} {A : Around} {E : Value → Shared → Prop} {s : Shared} {β : Type} {F : Nat → β → Sem (ForInStep β)} (g : Nat → β) (N : Nat) (step : ∀ (i : Nat) (Q : ForInStep β → Shared → Prop), i < N → Q (.yield (g (i + 1))) s → wpAny M A (F i (g i)) Q E s) :
    ∀ (m i : Nat) (Q : β → Shared → Prop), i + m = N → Q (g N) s → wpAny M A (forIn (List.range' i m 1) (g i) F) Q E s
  | 0, i, Q, e, h => by
    rw [List.range'_zero, List.forIn_nil]
    have : i = N := by omega
    exact wpAny_pure (this ▸ h)
  | m + 1, i, Q, e, h => by
    rw [List.range'_succ, List.forIn_cons]
    exact wpAny_bind (step i _ (by omega) (forIn_idx' g N step m (i + 1) Q (by omega) h))
noncomputable def parts (bs : List (List UInt8)) (i : Nat) : Array (Array UInt8) := ((bs.take i).map (·.toArray)).toArray
noncomputable def taken (vs : List Value) (i : Nat) : List (Value × Option Value) := (vs.take i).map (·, none)
theorem joined_eq (sep : List UInt8) (bs : List (List UInt8)) : Builtin.Bytes.joined sep.toArray (bs.map (·.toArray)) = (sep.intercalate bs).toArray := by
  have key : ∀ (l : List (List UInt8)) (k : Nat) (out : Array UInt8), 0 < k → ((l.map (·.toArray)).zipIdx k).foldl (fun out (x : Array UInt8 × Nat) => (if x.2 > 0 then out ++ sep.toArray else out) ++ x.1) out = out ++ ((l.map fun x => sep ++ x).flatten).toArray := by
    intro l
    induction l with
    | nil => intro k out _; simp
    | cons x l ih =>
      intro k out hk
      simp only [List.map_cons, List.zipIdx_cons, List.foldl_cons, if_pos hk]
      rw [ih (k + 1) _ (by omega)]
      simp [Array.append_assoc]
  cases bs with
  | nil => rfl
  | cons b bs =>
    show ((((b :: bs).map (·.toArray)).zipIdx 0).foldl (fun out (x : Array UInt8 × Nat) => (if x.2 > 0 then out ++ sep.toArray else out) ++ x.1) #[]) = _
    simp only [List.map_cons, List.zipIdx_cons, List.foldl_cons]
    rw [if_neg (by omega), key bs 1 _ (by omega)]
    have : ∀ (l : List (List UInt8)) (b : List UInt8), sep.intercalate (b :: l) = b ++ (l.map fun x => sep ++ x).flatten := by
      intro l
      induction l with
      | nil => intro b; simp [List.intercalate]
      | cons c l ih => 
        intro b
        have := ih c
        simp only [List.intercalate, List.intersperse_cons_cons, List.flatten_cons] at this ⊢
        rw [this]
        simp
    rw [this]
    simp
theorem joined_eq' (sep : List UInt8) (bs : List (List UInt8)) : Builtin.Bytes.joined sep.toArray ((bs.map (·.toArray)).toArray).toList = (sep.intercalate bs).toArray := joined_eq sep bs
theorem parts_succ {bs : List (List UInt8)} {i : Nat} {x : List UInt8} (h : bs[i]? = some x) : parts bs (i + 1) = (parts bs i).push x.toArray := by
  unfold parts
  rw [List.take_add_one, h]
  simp
theorem taken_succ {vs : List Value} {i : Nat} {x : Value} (h : vs[i]? = some x) : taken vs (i + 1) = taken vs i ++ [(x, none)] := by
  unfold taken
  rw [List.take_add_one, h]
  simp
theorem taken_heap (vs : List Value) (i : Nat) (h : ∀ v ∈ vs, v.onHeap = false) : (Builtin.Bytes.Kind.bytes == Builtin.Bytes.Kind.bytearray || (taken vs i).any fun x => x.1.onHeap) = false := by
  show (taken vs i).any (fun x => x.1.onHeap) = false
  rw [List.any_eq_false]
  intro x hx
  unfold taken at hx
  obtain ⟨v, hv, rfl⟩ := List.mem_map.mp hx
  simp [h v (List.mem_of_mem_take hv)]
theorem letAll {M : Model} {A : Around} {E : Value → Shared → Prop} : ∀ (vs : List Value) (keep : List Value) {s : Shared} {Q : Unit → Shared → Prop}, Q () s → wpAny M A (Builtin.Bytes.joinLetGo (vs.map (·, none)) keep) Q E s
  | [], _, _, _, h => wpAny_pure h
  | v :: vs, keep, s, Q, h => by
    show wpAny _ _ (do letGo _ _; Builtin.Bytes.joinLetGo (vs.map (·, none)) keep) _ _ _
    exact wpAny_bind (wpAny_letGo (letAll vs keep h))
open Builtin.Bytes in
theorem join_meets {M : Model} {A : Around} {E : Value → Shared → Prop} {s : Shared} {sep : List UInt8} {t : Tok} {a : Addr} {bs : List (List UInt8)} {ts : List Tok} {Q : PySem.Fin → Shared → Prop} (hts : ts.length = bs.length)
    (hl : s.heap.IsList a ((bs.zip ts).map fun p => Value.bytes p.1.toArray p.2).toArray) (hz : (sep.intercalate bs).length ≤ 16777216) (hz2 : ((bs.map (·.toArray)).toArray.foldl (· + ·.size) (sep.toArray.size * ((bs.map (·.toArray)).toArray.size - 1))) ≤ 16777216)
    (h : ∀ t k, Q (.done (.ret (.bytes (sep.intercalate bs).toArray t))) { s with toks := k }) : wpAny M A (Builtin.«bytes.join» ⟨[.bytes sep.toArray t, .ref a], []⟩) Q E s := by
  unfold Builtin.«bytes.join» joinM
  refine wpAny_bind (wpAny_of_eq (a := (.bytes sep.toArray t, .ref a)) rfl ?_)
  refine wpAny_bind ?_
  show wpAny _ _ (joinItems (.ref a)) _ _ _
  unfold joinItems
  refine wpAny_bind (wpAny_typeOf hl.typeIs ?_)
  show wpAny _ _ (pure (Value.ref a)) _ _ _
  refine wpAny_pure ?_
  obtain ⟨o, ho, hc, n, hd⟩ := id hl
  refine wpAny_bind (wpAny_seqItems ho hd ?_)
  match bs, ts, hts with
  | [b], [tb], _ =>
    have e : ([] : List UInt8) = [] := rfl
    have hb : sep.intercalate [b] = b := by simp [List.intercalate]
    rw [hb] at h
    show wpAny _ _ (typeOf (Value.bytes b.toArray tb) >>= _) _ _ _
    refine wpAny_bind (wpAny_typeOf (typeIs_bytes _ _ _) ?_)
    exact wpAny_bind (wpAny_rule (wpAny_pure (h tb s.toks)))
  | [], ts, hts =>
    have e : ts = [] := by cases ts with | nil => rfl | cons x y => simp at hts
    subst e
    show wpAny _ _ (forIn _ _ _ >>= _) _ _ _
    rw [Std.Legacy.Range.forIn_eq_forIn_range']
    refine wpAny_bind ?_
    show wpAny _ _ (pure _) _ _ _
    refine wpAny_pure ?_
    refine wpAny_bind (wpAny_of_eq (a := sep.toArray) rfl ?_)
    refine ifF (KBy.tooLong_not hz2) ?_
    have hj : Builtin.Bytes.joined sep.toArray (#[] : Array (Array UInt8)).toList = (sep.intercalate []).toArray := joined_eq sep []
    refine wpAny_bind ?_
    show wpAny _ _ (mkBytes (Builtin.Bytes.joined sep.toArray (#[] : Array (Array UInt8)).toList)) _ _ _
    rw [hj]
    refine wpAny_mkBytes ?_ (by rw [sizeLine_eq]; exact hz)
    refine wpAny_bind (wpAny_holding (wpAny_point ?_))
    refine wpAny_bind (wpAny_pure ?_)
    exact wpAny_pure (h _ _)
  | b :: c :: bs, tb :: tc :: ts, hts =>
    show wpAny _ _ (forIn _ _ _ >>= _) _ _ _
    rw [Std.Legacy.Range.forIn_eq_forIn_range']
    have hV : (List.map (fun p => Value.bytes p.1.toArray p.2) ((b :: c :: bs).zip (tb :: tc :: ts))).length = (b :: c :: bs).length := by
      simp at hts ⊢
      simp [hts]
    have hN : (Std.Legacy.Range.size [:(List.map (fun p => Value.bytes p.1.toArray p.2) ((b :: c :: bs).zip (tb :: tc :: ts))).toArray.size]) = (b :: c :: bs).length := by
      rw [List.size_toArray, hV]
      simp
    rw [hN]
    refine wpAny_bind (forIn_idx' (fun i => (parts (b :: c :: bs) i, taken (((b :: c :: bs).zip (tb :: tc :: ts)).map fun p => Value.bytes p.1.toArray p.2) i)) (b :: c :: bs).length (fun i Q hi hQ => ?_) _ 0 _ (Nat.zero_add _) ?_)
    · refine wpAny_bind (wpAny_seqItems ho hd ?_)
      obtain ⟨ti, hti⟩ : ∃ ti, (tb :: tc :: ts)[i]? = some ti := ⟨(tb :: tc :: ts)[i]'(by rw [hts]; exact hi), List.getElem?_eq_getElem _⟩
      have hbi : (b :: c :: bs)[i]? = some (b :: c :: bs)[i] := List.getElem?_eq_getElem hi
      have hx : (List.map (fun p => Value.bytes p.1.toArray p.2) ((b :: c :: bs).zip (tb :: tc :: ts)))[i]? = some (.bytes ((b :: c :: bs)[i]).toArray ti) := by
        rw [List.getElem?_map, (List.getElem?_zip_eq_some (z := ((b :: c :: bs)[i], ti))).mpr ⟨hbi, hti⟩]
        rfl
      have hx' : (List.map (fun p => Value.bytes p.1.toArray p.2) ((b :: c :: bs).zip (tb :: tc :: ts))).toArray.getD i Value.none = .bytes ((b :: c :: bs)[i]).toArray ti := by
        simp only [Array.getD_eq_getD_getElem?, List.getElem?_toArray, hx, Option.getD_some]
      have hp : parts (b :: c :: bs) (i + 1) = (parts (b :: c :: bs) i).push ((b :: c :: bs)[i]).toArray := parts_succ hbi
      have ht : taken (((b :: c :: bs).zip (tb :: tc :: ts)).map fun p => Value.bytes p.1.toArray p.2) (i + 1) = taken (((b :: c :: bs).zip (tb :: tc :: ts)).map fun p => Value.bytes p.1.toArray p.2) i ++ [(.bytes ((b :: c :: bs)[i]).toArray ti, none)] := taken_succ hx
      rw [hp, ht] at hQ
      simp only [hx']
      refine ifF (taken_heap _ _ fun v hv => ?_) ?_
      · obtain ⟨p, _, rfl⟩ := List.mem_map.mp hv
        rfl
      refine wpAny_bind (wpAny_holding (wpAny_of_eq takeQ_eq ?_))
      refine wpAny_bind (wpAny_seqItems ho hd ?_)
      refine ifF (by simp) ?_
      exact wpAny_pure hQ
    · refine wpAny_bind (wpAny_of_eq (a := sep.toArray) rfl ?_)
      have hP : parts (b :: c :: bs) (b :: c :: bs).length = ((b :: c :: bs).map (·.toArray)).toArray := by
        unfold parts
        rw [List.take_length]
      have hT : taken (((b :: c :: bs).zip (tb :: tc :: ts)).map fun p => Value.bytes p.1.toArray p.2) (b :: c :: bs).length = (((b :: c :: bs).zip (tb :: tc :: ts)).map fun p => Value.bytes p.1.toArray p.2).map (·, none) := by
        unfold taken
        rw [← hV, List.take_length]
      rw [hP, hT]
      clear hT hP hN hV hd hl
      generalize (((b :: c :: bs).zip (tb :: tc :: ts)).map fun p => Value.bytes p.1.toArray p.2) = V
      refine ifF (KBy.tooLong_not hz2) ?_
      refine wpAny_bind ?_
      rw [joined_eq' sep (b :: c :: bs)]
      show wpAny _ _ (mkBytes _) _ _ _
      refine wpAny_mkBytes ?_ (by rw [sizeLine_eq]; exact hz)
      refine wpAny_bind (wpAny_holding (wpAny_point ?_))
      refine wpAny_bind (letAll V _ ?_)
      exact wpAny_pure (h _ _)
end Mine
end
section
open PySem PySem.W PyProof.Rows PySem.Calls PySem.P
namespace Mine
section
variable {C : Cx} {n : Nat}
theorem sum_foldl (k : Nat) : ∀ (bs : List (List UInt8)) (i : Nat), ((bs.map (·.toArray)).toArray.foldl (· + ·.size) i) = i + (bs.map List.length).sum
  | [], i => by simp
  | b :: bs, i => by
    have := sum_foldl k bs (i + b.length)
    simp at this ⊢
    omega
theorem inter_len (sep : List UInt8) : ∀ bs : List (List UInt8), (sep.intercalate bs).length ≤ (bs.map List.length).sum + sep.length * bs.length
  | [] => by simp [List.intercalate]
  | [b] => by simp [List.intercalate]
  | b :: c :: bs => by
    have := inter_len sep (c :: bs)
    simp only [List.intercalate, List.intersperse_cons_cons, List.flatten_cons, List.length_append, List.map_cons, List.sum_cons, List.length_cons, Nat.mul_add, Nat.mul_one] at this ⊢
    omega
theorem c_join {sep : List UInt8} {p : PV} {bs : List (List UInt8)} (e : p.items? = some (bs.map .bytes)) (hz : (bs.map List.length).sum + sep.length * bs.length ≤ 16777216) : CallR C n (.builtin "bytes.join") [.bytes sep, p] (.bytes (sep.intercalate bs)) := by
  intro A P s vs hA _ _ r
  obtain ⟨v, u, rfl, q, q'⟩ := r.two
  obtain ⟨t, rfl⟩ := q.bytes_inv
  obtain ⟨a, ws, rfl, hl, hr⟩ := q'.items_inv e
  obtain ⟨ts, hts, rfl⟩ := reps_bytes hr
  have h1 := inter_len sep bs
  refine call_meets (S := fun _ R s₀ => s₀.heap = s.heap ∧ ∀ t' k, R (.ok (.ret (.bytes (sep.intercalate bs).toArray t'))) { s₀ with toks := k }) sl_join (typeIs_bytes _ _ _) en_join (ar_join _ _) (.of_wp fun prog w A R s₀ hS => ?_) ⟨rfl, fun t' k => ⟨.inl (.bytes _ _), keepsTok s _⟩⟩
  refine join_meets hts (by rw [hS.1]; exact hl.isList) (by omega) ?_ fun t' k => ⟨_, rfl, hS.2 t' k⟩
  rw [sum_foldl 0]
  simp only [List.size_toArray, List.length_map]
  have : sep.length * (bs.length - 1) ≤ sep.length * bs.length := Nat.mul_le_mul_left _ (by omega)
  omega

/-! lists -/
theorem o_addL {p q : PV} {l m : List PV} (e : p.items? = some l) (e' : q.items? = some m) (hz : l.length + m.length ≤ 16777216) : Op2 C n (binaryOp .Add) p q (.lst (l ++ m)) := by
  intro A P s v u _ _ hP r r'
  obtain ⟨a, vs, rfl, hl, hr⟩ := r.items_inv e
  obtain ⟨b, ws, rfl, hl', hr'⟩ := r'.items_inv e'
  obtain ⟨k, ho⟩ := id hl
  obtain ⟨k', ho'⟩ := id hl'
  have e2 : vs.toArray ++ ws.toArray = (vs ++ ws).toArray := by simp
  refine concat_meets ⟨_, ho, rfl⟩ ⟨_, ho', rfl⟩ noFill_list_add seq_list_add PySem.F.slot_list_add PySem.F.entry_list_add (PySem.F.args_list_add_2 _ _) (list_addW a b vs.toArray ws.toArray k k' none none #[] #[] (by simp only [List.size_toArray]; rw [hr.length, hr'.length, sizeLine_eq]; exact hz)) ⟨ho, ho', ?_⟩
  rw [e2]
  exact ⟨.inl (.lst hP.fresh ⟨0, Heap.get?_push_size _ rfl⟩ ((hr.append hr').keep (KeepH.push _ _))), ⟨_, _, rfl, KeepH.push _ _⟩⟩
noncomputable def intL (ns : List Int) : List PV := ns.map .int
theorem IntsAre_of {P : List Addr} {h : Heap} : ∀ {vs : List Value} {ns : List Int}, RepAll C P h vs (intL ns) → IntsAre vs ns
  | _, [], .nil => .nil
  | _, n :: ns, .cons a r => by
    cases a with
    | int _ t => exact .cons n t (IntsAre_of r)
theorem o_eqL {p q : PV} {l m : List Int} (e : p.items? = some (intL l)) (e' : q.items? = some (intL m)) : Op2 C (n + 3) (compareOp .Eq) p q (.bool (decide (l = m))) := by
  intro A P s v u hA _ hP r r'
  obtain ⟨a, vs, rfl, hl, hr⟩ := r.items_inv e
  obtain ⟨b, ws, rfl, hl', hr'⟩ := r'.items_inv e'
  exact eq_intsK hl.isList (IntsAre_of hr) hl'.isList (IntsAre_of hr') (by have := hA.2.2; omega) ⟨.inl (.bool _), keepsRefl s⟩
theorem o_neL {p q : PV} {l m : List Int} (e : p.items? = some (intL l)) (e' : q.items? = some (intL m)) : Op2 C (n + 3) (compareOp .NotEq) p q (.bool (!decide (l = m))) := by
  intro A P s v u hA _ hP r r'
  obtain ⟨a, vs, rfl, hl, hr⟩ := r.items_inv e
  obtain ⟨b, ws, rfl, hl', hr'⟩ := r'.items_inv e'
  exact ne_intsK hl.isList (IntsAre_of hr) hl'.isList (IntsAre_of hr') (by have := hA.2.2; omega) ⟨.inl (.bool _), keepsRefl s⟩
theorem trL {p : PV} {l : List PV} (e : p.items? = some l) (hz : l.length ≤ 16777216) : Tr C n p (!l.isEmpty) := by
  intro A P s v _ _ _ r
  obtain ⟨a, vs, rfl, hl, hr⟩ := r.items_inv e
  have hlen := hr.length
  refine wpAny_truthy_list hl.isList (by simp only [List.size_toArray]; omega) ⟨?_, keepsTok s _⟩
  cases vs <;> cases l <;> simp at hlen ⊢

theorem mulL {α : Type} (x : α) : ∀ k, (List.replicate k [x]).flatten = List.replicate k x
  | 0 => rfl
  | k + 1 => by rw [List.replicate_succ, List.flatten_cons, mulL x k]; rfl

/-! in a tuple -/
theorem beq_sym {α : Type} [BEq α] [LawfulBEq α] (a b : α) : (a == b) = (b == a) := Bool.eq_iff_iff.mpr ⟨fun h => beq_iff_eq.mpr (beq_iff_eq.mp h).symm, fun h => beq_iff_eq.mpr (beq_iff_eq.mp h).symm⟩
noncomputable def bytesIs (a : List UInt8) : Value → Bool
  | .bytes b _ => b.toList == a
  | _ => false
theorem any_bytes {P : List Addr} {h : Heap} {x : List UInt8} : ∀ {vs : List Value} {bs : List (List UInt8)}, RepAll C P h vs (bs.map .bytes) → vs.any (bytesIs x) = bs.contains x
  | _, [], .nil => rfl
  | _, b :: bs, .cons a r => by
    cases a with
    | bytes _ t =>
      rw [List.any_cons, List.contains_cons, any_bytes r]
      congr 1
      show (b.toArray.toList == x) = (x == b)
      exact beq_sym _ _
theorem o_inB {x : List UInt8} {bs : List (List UInt8)} : Op2 C n (compareOp .In) (.bytes x) (.tup (bs.map .bytes)) (.bool (bs.contains x)) := by
  intro A P s v u _ _ hP r r'
  obtain ⟨t, rfl⟩ := r.bytes_inv
  obtain ⟨a, vs, rfl, _, hl, hr⟩ := r'.tup_inv
  refine PySem.SeqAt.in_tupleAt (bytesIs x) hl (fun y hy => ?_) ⟨?_, keepsRefl s⟩
  · obtain ⟨i, hi⟩ := List.mem_iff_getElem?.mp (by simpa using hy)
    obtain ⟨p, hp, rp⟩ := hr.get' hi
    rw [List.getElem?_map] at hp
    obtain ⟨b, _, rfl⟩ := Option.map_eq_some_iff.mp hp
    cases rp with
    | bytes _ t' =>
      intro prog w E Q hq
      refine eqBool_bytes ?_
      have : decide (b.toArray.toList = x.toArray.toList) = bytesIs x (.bytes b.toArray t') := by
        rw [Bool.eq_iff_iff]; simp [bytesIs]
      rw [this]; exact hq
  · have e : vs.toArray.any (bytesIs x) = bs.contains x := by rw [← any_bytes hr]; simp
    rw [e]; exact .inl (.bool _)
noncomputable def intIs (a : Int) : Value → Bool
  | .int b _ => b == a
  | _ => false
theorem any_int {P : List Addr} {h : Heap} {x : Int} : ∀ {vs : List Value} {bs : List Int}, RepAll C P h vs (intL bs) → vs.any (intIs x) = bs.contains x
  | _, [], .nil => rfl
  | _, b :: bs, .cons a r => by
    cases a with
    | int _ t =>
      rw [List.any_cons, List.contains_cons, any_int r]
      congr 1
      show (b == x) = (x == b)
      exact beq_sym _ _
theorem o_notInI {x : Int} {bs : List Int} : Op2 C n (compareOp .NotIn) (.int x) (.tup (intL bs)) (.bool (!bs.contains x)) := by
  intro A P s v u _ _ hP r r'
  obtain ⟨t, rfl⟩ := r.int_inv
  obtain ⟨a, vs, rfl, _, hl, hr⟩ := r'.tup_inv
  refine PySem.SeqAt.notIn_tupleAt (intIs x) hl (fun y hy => ?_) ⟨?_, keepsRefl s⟩
  · obtain ⟨i, hi⟩ := List.mem_iff_getElem?.mp (by simpa using hy)
    obtain ⟨p, hp, rp⟩ := hr.get' hi
    unfold intL at hp
    rw [List.getElem?_map] at hp
    obtain ⟨b, _, rfl⟩ := Option.map_eq_some_iff.mp hp
    cases rp with
    | int _ t' => exact (PySem.MeetsSeq.EqGives.int b x t' t).at _ _
  · have e : vs.toArray.any (intIs x) = bs.contains x := by rw [← any_int hr]; simp
    rw [e]; exact .inl (.bool _)

/-! calls -/
theorem c_max {a b : Int} : CallR C n (.builtin "max") [.int a, .int b] (.int (max a b)) := by
  intro A P s vs hA _ _ r
  obtain ⟨v, u, rfl, q, q'⟩ := r.two
  obtain ⟨t, rfl⟩ := q.int_inv
  obtain ⟨t', rfl⟩ := q'.int_inv
  refine max_two_ints hA.hh fun h' tk hk => ⟨.inl ?_, ⟨_, _, rfl, hk⟩⟩
  split
  · rename_i h; rw [Int.max_eq_right (by omega)]; exact .int _ _
  · rename_i h; rw [Int.max_eq_left (by omega)]; exact .int _ _
theorem c_chr {i : Int} (h0 : 0 ≤ i) (h1 : i < 256) : CallR C n (.builtin "chr") [.int i] (.str ⟨#[i.toNat]⟩) := by
  intro A P s vs hA _ _ r
  obtain ⟨v, rfl, q⟩ := r.one
  obtain ⟨t, rfl⟩ := q.int_inv
  exact chr_of_int (by simp; omega) ⟨.inl (.str _ _), keepsTok s _⟩
theorem m_isalnum {x : Str} : MethR C (.str x) "isalnum" "str.isalnum" := by
  intro A P s v pl Q r h
  obtain ⟨t, rfl⟩ := r.str_inv
  exact PySem.GM.isalnum h
theorem c_isalnum {x : Str} : CallR C n (.builtin "str.isalnum") [.str x] (.bool (Txt.isalnum x)) := by
  intro A P s vs hA _ _ r
  obtain ⟨v, rfl, q⟩ := r.one
  obtain ⟨t, rfl⟩ := q.str_inv
  exact PySem.SC.isalnum ⟨.inl (.bool _), keepsRefl s⟩
theorem byteArr_nat (l : List UInt8) : byteArr (l.map fun c => (c.toNat : Int)) = l.toArray := by
  unfold byteArr
  rw [List.map_map]
  congr 1
  conv => rhs; rw [← List.map_id l]
  apply List.map_congr_left
  intro c _
  simp
theorem c_bytes {p : PV} {l : List UInt8} (e : p.items? = some (intsOf l)) (hz : l.length ≤ 16777216) : CallR C n (.type "bytes") [p] (.bytes l) := by
  intro A P s vs hA _ _ r
  obtain ⟨v, rfl, q⟩ := r.one
  obtain ⟨a, ws, rfl, hl, hr⟩ := q.items_inv e
  have hi : IntsAre ws (l.map fun c => (c.toNat : Int)) := IntsAre_of (C := C) (P := P) (h := s.heap) (by unfold intL; rw [List.map_map]; exact hr)
  refine call_bytes_ints hl.isList hi (fun n hn => ?_) (by rw [sizeLine_eq, hr.length]; simpa [intsOf] using hz) hA.hh fun h' t k hk => ⟨.inl ?_, ⟨_, _, rfl, hk⟩⟩
  · obtain ⟨c, _, rfl⟩ := List.mem_map.mp hn
    have := c.toNat_lt
    omega
  · rw [byteArr_nat]; exact .bytes _ _
end
end Mine
end
section
open PySem PySem.W PyProof.Rows PySem.Calls PySem.P
namespace Mine
section
variable {C : Cx} {n : Nat}
theorem RepAll.rep {P : List Addr} {h : Heap} {vs : List Value} {l : List PV} (r : RepAll C P h vs l) : ∀ k : Nat, RepAll C P h (List.replicate k vs).flatten (List.replicate k l).flatten
  | 0 => .nil
  | k + 1 => by
    rw [List.replicate_succ, List.flatten_cons, List.replicate_succ, List.flatten_cons]
    exact r.append (r.rep k)
theorem o_mulL {p : PV} {l : List PV} {x : Int} (e : p.items? = some l) (h0 : 0 ≤ x) (hz : l.length * x.toNat ≤ 256) (hx : x ≤ 256) : Op2 C n (binaryOp .Mult) p (.int x) (.lst (List.replicate x.toNat l).flatten) := by
  intro A P s v w _ _ hP r r'
  obtain ⟨a, vs, rfl, hl, hr⟩ := r.items_inv e
  obtain ⟨u, rfl⟩ := r'.int_inv
  obtain ⟨k, ho⟩ := id hl
  have hsz' : vs.toArray.size * x.toNat ≤ 256 := by rw [List.size_toArray, hr.length]; exact hz
  have hsz'' : vs.length * x.toNat ≤ 256 := by rw [hr.length]; exact hz
  refine wpAny_binaryOp_repeat_ref (T := "list") (U := "int") (by decide) ⟨_, ho, rfl⟩ (fun s' => typeIs_int s' x u) noFill_list_mul F.fills_int_mul F.slot_int_rmul repeat_list F.slot_int_index.lookup
    (call_meets F.slot_int_rmul (typeIs_int s x u) F.entry_int_rmul (F.args_int_rmul_2 _ _) (lm_int_rmul_list_any x u a vs.toArray k none #[])
      ⟨ho, rfl, ⟨_, ho, rfl⟩, call_meets F.slot_list_mul ⟨_, ho, rfl⟩ F.entry_list_mul (F.args_list_mul_2 _ _)
        (lm_list_mul_any a vs.toArray k none #[] x u (by simp [Builtin.List.listFitsIndex]; omega) (by omega) (by simp [Builtin.List.listTooLong, sizeLine]; omega))
        ⟨ho, ?_⟩⟩)
  rw [listMul_foldl_if]
  exact ⟨.inl (.lst hP.fresh ⟨0, Heap.get?_push_size _ rfl⟩ ((hr.rep _).keep (KeepH.push _ _))), ⟨_, _, rfl, KeepH.push _ _⟩⟩

/-! a dict of pairs -/
theorem no_keys : typeLookup (.type "list") "keys" = pure none := by rw [typeLookup_type, builtinLookup_eq_fast]; kernel_rfl
theorem keys_miss {A : Around} {E : Value → Shared → Prop} {s : Shared} {a : Addr} {xs : Array Value} {k : Nat} {Q : Option Value → Shared → Prop}
    (hx : s.heap.get? a = some { cls := .type "list", dict := none, data := .seq xs k, slots := #[] }) (hA : A.handled = none) (h : ∀ h' tk, KeepH s.heap h' → Q none { s with heap := h', toks := tk }) : wpAny C.M A (getAttr? (.ref a) "keys") Q E s := by
  have hn : (["__module__", "__name__", "__qualname__", "__doc__", "__annotations__"] : List Str).contains ("keys" : Str) = false := by decide +kernel
  obtain ⟨hp, g, d, tk, os⟩ := s
  have hT : ∀ tk', (⟨hp, g, d, tk', os⟩ : Shared).TypeIs (.ref a) "list" := fun _ => ⟨_, hx, rfl⟩
  have f1 := sub_AttributeError
  have f3 := F.slot_list_getattribute.lookup
  have f4 := F.slot_list_getattribute.bind (.ref a)
  have f5 := am_list_getattr_none
  unfold getAttr? getAttrBy?
  refine wpAny_bind ?_
  refine wpAny_mkText ?_
  refine wpAny_bind (wpAny_attempt ?_)
  unfold getAttrBy
  repeat (any_goals (first | assumption | exact hT _ | ((with_reducible show wpAny _ _ (call (Value.builtin "list.__getattribute__") _ _) _ _ _); refine call_meets F.slot_list_getattribute (hT _) am_entry_list_getattribute (F.args_list_getattribute_2 _ _) (meets_getattribute_miss_list a xs k #[] "keys" _ no_keys hn) ⟨hx, hA, fun h' tk' e hx' => ?_⟩) | wp_step))
  obtain ⟨t', u', he⟩ := hx'.there
  show wpAny _ _ (getattributeRaised _ _ _ _ _ _ _) _ _ _
  unfold getattributeRaised
  repeat (any_goals (first | assumption | wp_step))
  exact h _ _ hx'.keeps

theorem pl_loop : plainId "dict.update.loop" = true := by decide +kernel
theorem en_loop : entryFor table "dict.update.loop" = some Builtin.«dict.update.loop» := entryFor_of_tree (by kernel_rfl)
/-- what a dict of the pairs tells -/
noncomputable def tabF (ps : List (Int × Int)) (k : Int) : Option Int := (ps.find? fun p => p.1 = k).map (·.2)
inductive KVs : List (Int × Value) → List (Int × Int) → Prop
  | nil : KVs [] []
  | cons {r : List (Int × Value)} {ps : List (Int × Int)} (k v : Int) (t : Tok) : KVs r ps → KVs ((k, .int v t) :: r) ((k, v) :: ps)
theorem KVs.snoc {r : List (Int × Value)} {ps : List (Int × Int)} (h : KVs r ps) (k v : Int) (t : Tok) : KVs (r ++ [(k, .int v t)]) (ps ++ [(k, v)]) := by
  induction h with
  | nil => exact .cons k v t .nil
  | cons k' v' t' _ ih => exact .cons k' v' t' ih
theorem KVs.length {r : List (Int × Value)} {ps : List (Int × Int)} (h : KVs r ps) : r.length = ps.length := by
  induction h with
  | nil => rfl
  | cons k v t _ ih => simp [ih]
theorem KVs.find {r : List (Int × Value)} {ps : List (Int × Int)} (h : KVs r ps) (x : Int) : match tabF ps x with | some i => ∃ t, valueAt r x = some (.int i t) | Option.none => valueAt r x = Option.none := by
  induction h with
  | nil => exact rfl
  | @cons r ps k v t _ ih =>
    unfold tabF valueAt at ih ⊢
    by_cases e : k = x
    · simp only [List.find?_cons, e, decide_true, Option.map_some]
      exact ⟨t, rfl⟩
    · simp only [List.find?_cons, e, decide_false]
      exact ih
theorem tabF_none {ps : List (Int × Int)} {k : Int} (h : k ∉ ps.map (·.1)) : tabF ps k = none := by
  unfold tabF
  rw [Option.map_eq_none_iff, List.find?_eq_none]
  intro p hp e
  simp only [decide_eq_true_eq] at e
  exact h (List.mem_map.mpr ⟨p, hp, e⟩)
/-- the pairs of ints in a list -/
theorem dict_loop {R : Result → Shared → Prop} {A : Around} {l I D : Addr} {vs : List Value} {ps : List (Int × Int)} (hh : A.handled = none) (hlI : l ≠ I) (hlD : l ≠ D) (hID : I ≠ D) (hnd : (ps.map (·.1)).Nodup) (hz : ps.length ≤ 16777216) (hlen : vs.length = ps.length) :
    ∀ (k i : Nat) (s : Shared) (kvs : List (Int × Value)), ps.length - i = k → i ≤ ps.length → s.heap.IsList l vs.toArray → s.heap.IsListIter I l i →
      (∀ (j : Nat) (b c : Int), ps[j]? = some (b, c) → ∃ (a : Addr) (t u : Tok), vs[j]? = some (Value.ref a) ∧ a ≠ I ∧ a ≠ D ∧ IsTup s.heap a #[.int b t, .int c u]) →
      s.heap.DictOf (intKind C.prog C.w) D kvs → KVs kvs (ps.take i) →
      (∀ h' tk kvs, h'.DictOf (intKind C.prog C.w) D kvs → KVs kvs ps → (∀ b o, b ≠ I → b ≠ D → s.heap.get? b = some o → h'.get? b = some o) → R (.ok (.ret .none)) { s with heap := h', toks := tk }) →
      codeAny C.M A (.builtin "dict.update.loop" ⟨[.ref D, .ref I, rawInt (i : Nat), .none], []⟩) R s := by
  intro k
  induction k with
  | zero =>
    intro i s kvs hk hle hl hit hps hm hkv hR
    have hin : i = ps.length := by omega
    refine codeAny_builtin en_loop ?_
    rw [Around.under_plainId pl_loop _]
    show wpAny _ A.in1 (pyNext (.ref I) >>= _) _ _ s
    refine wpAny_bind (wpAny_pyNext_list_end hh hit hl (by simp; omega) fun h' he => ?_)
    refine wpAny_bind (wpAny_pure (wpAny_pure ?_))
    rw [hin, List.take_length] at hkv
    exact hR h' s.toks kvs (hm.extBut he (Ne.symm hID)) hkv fun b o hb _ e => he b o hb e
  | succ k ih =>
    intro i s kvs hk hle hl hit hps hm hkv hR
    have hlt : i < ps.length := by omega
    obtain ⟨⟨b, c⟩, hbc⟩ : ∃ p, ps[i]? = some p := ⟨ps[i], List.getElem?_eq_getElem hlt⟩
    obtain ⟨a, t, u, hv, haI, haD, hT⟩ := hps i b c hbc
    refine codeAny_builtin en_loop ?_
    rw [Around.under_plainId pl_loop _]
    show wpAny _ A.in1 (pyNext (.ref I) >>= _) _ _ s
    refine wpAny_bind (wpAny_pyNext_list_item (x := .ref a) hit hl (by simpa using hv) fun h₁ hit₁ hs₁ => ?_)
    have hT₁ : IsTup h₁ a #[.int b t, .int c u] := by
      obtain ⟨o, e, q⟩ := hT
      exact ⟨o, (hs₁.2 a haI).trans e, q⟩
    obtain ⟨o, ho, hc, n, hd⟩ := id hT₁
    refine wpAny_bind ?_
    show wpAny _ _ (holding _ _) _ _ _
    refine wpAny_holding (wpAny_bind ?_)
    unfold Builtin.Dict.pairItems
    refine wpAny_tryCatch (wpAny_bind (wpAny_typeOf (hT₁.typeIs) ?_))
    show wpAny _ _ (seqItems? (.ref a) >>= _) _ _ _
    refine wpAny_bind (wpAny_seqItems ho hd ?_)
    refine wpAny_pure ?_
    show wpAny _ _ (holding _ (dictSet D (.int b t) (.int c u))) _ _ _
    have hnot : b ∉ (ps.take i).map (·.1) := fun hm' => by
      obtain ⟨j, hj⟩ := List.mem_iff_getElem?.mp hm'
      have hj' : j < i := by
        have := (List.getElem?_eq_some_iff.mp hj).1
        simp at this; omega
      have e1 : (ps.map (·.1))[j]? = some b := by
        rw [List.map_take, List.getElem?_take_of_lt hj'] at hj
        exact hj
      have e2 : (ps.map (·.1))[i]? = some b := by rw [List.getElem?_map, hbc]; rfl
      have hjl : j < (ps.map (·.1)).length := by rw [List.length_map]; omega
      exact absurd ((List.getElem?_inj hjl hnd).mp (e1.trans e2.symm)) (by omega)
    have hva : valueAt kvs b = none := by
      have := hkv.find b
      rw [tabF_none hnot] at this
      exact this
    have hkl := hkv.length
    rw [List.length_take] at hkl
    refine wpAny_holding (wpAny_dictSet_pairs (knd := intKind C.prog C.w) (k := b) (intKind_is _ _ b t) (hm.sameBut hs₁ (Ne.symm hID)) (fun h₂ hm₂ hs₂ => ?_) (by rw [sizeLine_eq]; omega))
    rw [stored_absent hva] at hm₂
    refine wpAny_pure ⟨plainId_quiet pl_loop _, ?_⟩
    refine ih (i + 1) { s with heap := h₂, toks := s.toks + 1 } (kvs ++ [(b, .int c u)]) (by omega) hlt ?_ ?_ (fun j b' c' hj => ?_) hm₂ ?_ fun h' tk kvs' hd' hkv' hk' => ?_
    · exact (hl.extBut hs₁.extBut hlI).extBut hs₂.extBut hlD
    · exact hit₁.extBut hs₂.extBut hID
    · obtain ⟨a', t', u', hv', haI', haD', o', e', q'⟩ := hps j b' c' hj
      exact ⟨a', t', u', hv', haI', haD', o', (hs₂.2 a' haD').trans ((hs₁.2 a' haI').trans e'), q'⟩
    · rw [List.take_add_one, hbc]
      exact hkv.snoc b c u
    · exact hR h' tk kvs' hd' hkv' fun x o' hxI hxD e => hk' x o' hxI hxD ((hs₂.2 x hxD).trans ((hs₁.2 x hxI).trans e))

noncomputable def pairPV (p : Int × Int) : PV := .tup [.int p.1, .int p.2]
theorem c_dict (hbig : ∃ x o, sysModules < x ∧ C.g.get? x = some o) {ps : List (Int × Int)} (hnd : (ps.map (·.1)).Nodup) (hz : ps.length ≤ 16777216) : CallR C n (.type "dict") [.lst (ps.map pairPV)] (.tab (tabF ps)) := by
  intro A P s ws hA hg hP r
  obtain ⟨v, rfl, q⟩ := r.one
  obtain ⟨a, vs, rfl, hl, hr⟩ := q.items_inv rfl
  have hlen : vs.length = ps.length := by rw [hr.length, List.length_map]
  have hpl := hl
  obtain ⟨kk, ho⟩ := hl
  have hlt : a < s.heap.objs.size := Heap.lt_size ho
  have hsys : sysModules < s.heap.objs.size := by
    obtain ⟨x, o, hx, e⟩ := hbig
    exact Nat.lt_trans hx (Heap.lt_size (hg _ _ e))
  refine callType_codes (Q₁ := fun obj s₁ => obj = .ref s.heap.objs.size ∧ s₁ = { s with heap := s.heap.push { cls := .type "dict", data := .dict #[] } }) F.kt_called_dict (F.kt_typeCall_dict_1 _) F.entry_dict_init (kt_code_dict_new _ ⟨rfl, rfl⟩) ?_
  rintro obj s₁ ⟨rfl, rfl⟩
  have hnew : (s.heap.push { cls := .type "dict", data := .dict #[] }).DictOf (intKind C.prog C.w) s.heap.objs.size [] := Heap.DictOf.new s.heap
  refine ⟨hnew.typeIs, F.args_dict_init_2 _ _, ?_⟩
  have up := KeepH.push s.heap { cls := .type "dict", data := .dict #[] }
  unfold Builtin.«dict.__init__»
  refine wpAny_bind ?_
  unfold Builtin.Dict.selfAndRest
  refine wpAny_bind (wpAny_notOrdered_dict hnew.typeIs ?_)
  show wpAny _ _ (pure (s.heap.objs.size, [Value.ref a])) _ _ _
  refine wpAny_pure ?_
  show wpAny _ _ (Builtin.Dict.updateFrom "dict.__init__" s.heap.objs.size (.ref a) [] .none) _ _ _
  unfold Builtin.Dict.updateFrom
  refine wpAny_bind (wpAny_typeOf (T := "list") ⟨_, up _ _ ho, rfl⟩ ?_)
  rw [if_pos (by decide)]
  refine wpAny_bind (keys_miss (C := C) (up _ _ ho) hA.hh fun h₁ tk₁ k₁ => ?_)
  rw [if_pos (by decide)]
  refine wpAny_bind (wpAny_rule ?_)
  have ho₁ := k₁ _ _ (up _ _ ho)
  have hl₁ : h₁.IsList a vs.toArray := ⟨_, ho₁, rfl, _, rfl⟩
  refine wpAny_bind (wpAny_pyIter_list hl₁ ?_)
  have up₂ := KeepH.push h₁ { cls := .type "list_iterator", data := .fields #[.ref a, .int 0 0] }
  obtain ⟨oD, _, _, eD, _⟩ := id hnew
  have hD₁ : s.heap.objs.size < h₁.objs.size := Heap.lt_size (k₁ _ _ eD)
  have ha₁ : a < h₁.objs.size := Heap.lt_size ho₁
  refine wpAny_pure ⟨plainId_quiet pl_loop _, ?_⟩
  refine dict_loop (C := C) (A := A.in1) (l := a) (I := h₁.objs.size) (D := s.heap.objs.size) (vs := vs) (ps := ps) hA.hh (Nat.ne_of_lt ha₁) (Nat.ne_of_lt hlt) (Nat.ne_of_lt hD₁).symm hnd hz hlen ps.length 0 { s with heap := h₁.push { cls := .type "list_iterator", data := .fields #[.ref a, .int 0 0] }, toks := tk₁ } [] (by omega) (Nat.zero_le _) (hl₁.push _) ⟨_, Heap.get?_push_size _ rfl, rfl, rfl⟩ (fun j b c hj => ?_) ?_ .nil fun h' tk kvs hd hkv hk => ?_
  · have hp : (ps.map pairPV)[j]? = some (pairPV (b, c)) := by rw [List.getElem?_map, hj]; rfl
    obtain ⟨x, hx, rx⟩ := hr.get hp
    unfold pairPV at rx
    cases rx with
    | @tup a' ws _ ha' ht hr' =>
      cases hr' with
      | cons r1 r2 =>
        cases r2 with
        | cons r2 r3 =>
          cases r3
          cases r1 with
          | int _ t =>
            cases r2 with
            | int _ u =>
              have hold : a' < s.heap.objs.size := ht.lt
              obtain ⟨o, e, q⟩ := ht
              exact ⟨a', t, u, hx, Nat.ne_of_lt (Nat.lt_trans hold hD₁), Nat.ne_of_lt hold, o, up₂ _ _ (k₁ _ _ (up _ _ e)), q⟩
  · exact (hnew.keep k₁).push _
  · have kk' : KeepH s.heap h' := fun b o e => hk b o (Nat.ne_of_lt (Nat.lt_trans (Heap.lt_size e) hD₁)) (Nat.ne_of_lt (Heap.lt_size e)) (up₂ _ _ (k₁ _ _ (up _ _ e)))
    refine ⟨rfl, .inl (.tab hP.fresh ⟨?_, _, hd.mapOf, fun k => hkv.find k⟩), ⟨_, _, rfl, kk'⟩⟩
    exact beq_false_of_ne (Nat.ne_of_lt hsys).symm
end
end Mine
end
section
open PySem PySem.W PyProof.Rows PySem.Calls
namespace Mine

/-- the claim's ground -/
structure Su (C : Cx) : Prop where
  ok : C.Ok
  K : (K C.w.params).In C.g
  built : ∀ x : Str, x ≠ "__name__" → C.mb x = bootBuiltins x

noncomputable def signs : List UInt8 := [65, 66, 67, 68, 69, 70, 71, 72, 73, 74, 75, 76, 77, 78, 79, 80, 81, 82, 83, 84, 85, 86, 87, 88, 89, 90, 97, 98, 99, 100, 101, 102, 103, 104, 105, 106, 107, 108, 109, 110, 111, 112, 113, 114, 115, 116, 117, 118, 119, 120, 121, 122, 48, 49, 50, 51, 52, 53, 54, 55, 56, 57, 43, 47]
noncomputable def hexes : List UInt8 := [48, 49, 50, 51, 52, 53, 54, 55, 56, 57, 65, 66, 67, 68, 69, 70]
noncomputable def menu : List (List UInt8) := [[97], [90, 122], [32], [9], [13], [10], [13, 10], [46], [61], [0], [128], [255]]
section
variable {C : Cx} {n : Nat} {env : Env} {σ : Loc} {pos : Pos}
theorem Su.n_worth_table (S : Su C) (hk : env.scope.kind = .function) (hg : env.globals = mainGlobals) (hx : env.kindOf "worth_table" = some .globalImplicit) : EvE C n env σ (.Name "worth_table" pos) (.val (.ref 19)) := EvE.glob S.ok (mg_of S.K S.ok.gl (by rfl)) (fun _ _ _ _ => .val _) hk hg hx (by decide)
theorem Su.n_group_codes (S : Su C) (hk : env.scope.kind = .function) (hg : env.globals = mainGlobals) (hx : env.kindOf "group_codes" = some .globalImplicit) : EvE C n env σ (.Name "group_codes" pos) (.val (.ref 24)) := EvE.glob S.ok (mg_of S.K S.ok.gl (by rfl)) (fun _ _ _ _ => .val _) hk hg hx (by decide)
theorem Su.n_group_octets (S : Su C) (hk : env.scope.kind = .function) (hg : env.globals = mainGlobals) (hx : env.kindOf "group_octets" = some .globalImplicit) : EvE C n env σ (.Name "group_octets" pos) (.val (.ref 29)) := EvE.glob S.ok (mg_of S.K S.ok.gl (by rfl)) (fun _ _ _ _ => .val _) hk hg hx (by decide)
theorem Su.n_part_encoded (S : Su C) (hk : env.scope.kind = .function) (hg : env.globals = mainGlobals) (hx : env.kindOf "part_encoded" = some .globalImplicit) : EvE C n env σ (.Name "part_encoded" pos) (.val (.ref 36)) := EvE.glob S.ok (mg_of S.K S.ok.gl (by rfl)) (fun _ _ _ _ => .val _) hk hg hx (by decide)
theorem Su.n_one_line (S : Su C) (hk : env.scope.kind = .function) (hg : env.globals = mainGlobals) (hx : env.kindOf "one_line" = some .globalImplicit) : EvE C n env σ (.Name "one_line" pos) (.val (.ref 43)) := EvE.glob S.ok (mg_of S.K S.ok.gl (by rfl)) (fun _ _ _ _ => .val _) hk hg hx (by decide)
theorem Su.n_in_lines (S : Su C) (hk : env.scope.kind = .function) (hg : env.globals = mainGlobals) (hx : env.kindOf "in_lines" = some .globalImplicit) : EvE C n env σ (.Name "in_lines" pos) (.val (.ref 48)) := EvE.glob S.ok (mg_of S.K S.ok.gl (by rfl)) (fun _ _ _ _ => .val _) hk hg hx (by decide)
theorem Su.n_encoded (S : Su C) (hk : env.scope.kind = .function) (hg : env.globals = mainGlobals) (hx : env.kindOf "encoded" = some .globalImplicit) : EvE C n env σ (.Name "encoded" pos) (.val (.ref 56)) := EvE.glob S.ok (mg_of S.K S.ok.gl (by rfl)) (fun _ _ _ _ => .val _) hk hg hx (by decide)
theorem Su.n_decoded (S : Su C) (hk : env.scope.kind = .function) (hg : env.globals = mainGlobals) (hx : env.kindOf "decoded" = some .globalImplicit) : EvE C n env σ (.Name "decoded" pos) (.val (.ref 63)) := EvE.glob S.ok (mg_of S.K S.ok.gl (by rfl)) (fun _ _ _ _ => .val _) hk hg hx (by decide)
theorem Su.n_line_spans (S : Su C) (hk : env.scope.kind = .function) (hg : env.globals = mainGlobals) (hx : env.kindOf "line_spans" = some .globalImplicit) : EvE C n env σ (.Name "line_spans" pos) (.val (.ref 71)) := EvE.glob S.ok (mg_of S.K S.ok.gl (by rfl)) (fun _ _ _ _ => .val _) hk hg hx (by decide)
theorem Su.n_quoted_code (S : Su C) (hk : env.scope.kind = .function) (hg : env.globals = mainGlobals) (hx : env.kindOf "quoted_code" = some .globalImplicit) : EvE C n env σ (.Name "quoted_code" pos) (.val (.ref 118)) := EvE.glob S.ok (mg_of S.K S.ok.gl (by rfl)) (fun _ _ _ _ => .val _) hk hg hx (by decide)
theorem Su.n_hex_worth (S : Su C) (hk : env.scope.kind = .function) (hg : env.globals = mainGlobals) (hx : env.kindOf "hex_worth" = some .globalImplicit) : EvE C n env σ (.Name "hex_worth" pos) (.val (.ref 125)) := EvE.glob S.ok (mg_of S.K S.ok.gl (by rfl)) (fun _ _ _ _ => .val _) hk hg hx (by decide)
theorem Su.n_quoted_at (S : Su C) (hk : env.scope.kind = .function) (hg : env.globals = mainGlobals) (hx : env.kindOf "quoted_at" = some .globalImplicit) : EvE C n env σ (.Name "quoted_at" pos) (.val (.ref 132)) := EvE.glob S.ok (mg_of S.K S.ok.gl (by rfl)) (fun _ _ _ _ => .val _) hk hg hx (by decide)
theorem Su.n_is_plain (S : Su C) (hk : env.scope.kind = .function) (hg : env.globals = mainGlobals) (hx : env.kindOf "is_plain" = some .globalImplicit) : EvE C n env σ (.Name "is_plain" pos) (.val (.ref 139)) := EvE.glob S.ok (mg_of S.K S.ok.gl (by rfl)) (fun _ _ _ _ => .val _) hk hg hx (by decide)
theorem Su.n_line_pieces (S : Su C) (hk : env.scope.kind = .function) (hg : env.globals = mainGlobals) (hx : env.kindOf "line_pieces" = some .globalImplicit) : EvE C n env σ (.Name "line_pieces" pos) (.val (.ref 146)) := EvE.glob S.ok (mg_of S.K S.ok.gl (by rfl)) (fun _ _ _ _ => .val _) hk hg hx (by decide)
theorem Su.n_soft_lines (S : Su C) (hk : env.scope.kind = .function) (hg : env.globals = mainGlobals) (hx : env.kindOf "soft_lines" = some .globalImplicit) : EvE C n env σ (.Name "soft_lines" pos) (.val (.ref 153)) := EvE.glob S.ok (mg_of S.K S.ok.gl (by rfl)) (fun _ _ _ _ => .val _) hk hg hx (by decide)
theorem Su.n_text_lines (S : Su C) (hk : env.scope.kind = .function) (hg : env.globals = mainGlobals) (hx : env.kindOf "text_lines" = some .globalImplicit) : EvE C n env σ (.Name "text_lines" pos) (.val (.ref 160)) := EvE.glob S.ok (mg_of S.K S.ok.gl (by rfl)) (fun _ _ _ _ => .val _) hk hg hx (by decide)
theorem Su.n_quoted_encoded (S : Su C) (hk : env.scope.kind = .function) (hg : env.globals = mainGlobals) (hx : env.kindOf "quoted_encoded" = some .globalImplicit) : EvE C n env σ (.Name "quoted_encoded" pos) (.val (.ref 168)) := EvE.glob S.ok (mg_of S.K S.ok.gl (by rfl)) (fun _ _ _ _ => .val _) hk hg hx (by decide)
theorem Su.n_joined_lines (S : Su C) (hk : env.scope.kind = .function) (hg : env.globals = mainGlobals) (hx : env.kindOf "joined_lines" = some .globalImplicit) : EvE C n env σ (.Name "joined_lines" pos) (.val (.ref 175)) := EvE.glob S.ok (mg_of S.K S.ok.gl (by rfl)) (fun _ _ _ _ => .val _) hk hg hx (by decide)
theorem Su.n_line_parts (S : Su C) (hk : env.scope.kind = .function) (hg : env.globals = mainGlobals) (hx : env.kindOf "line_parts" = some .globalImplicit) : EvE C n env σ (.Name "line_parts" pos) (.val (.ref 182)) := EvE.glob S.ok (mg_of S.K S.ok.gl (by rfl)) (fun _ _ _ _ => .val _) hk hg hx (by decide)
theorem Su.n_unquoted (S : Su C) (hk : env.scope.kind = .function) (hg : env.globals = mainGlobals) (hx : env.kindOf "unquoted" = some .globalImplicit) : EvE C n env σ (.Name "unquoted" pos) (.val (.ref 189)) := EvE.glob S.ok (mg_of S.K S.ok.gl (by rfl)) (fun _ _ _ _ => .val _) hk hg hx (by decide)
theorem Su.n_quoted_decoded (S : Su C) (hk : env.scope.kind = .function) (hg : env.globals = mainGlobals) (hx : env.kindOf "quoted_decoded" = some .globalImplicit) : EvE C n env σ (.Name "quoted_decoded" pos) (.val (.ref 196)) := EvE.glob S.ok (mg_of S.K S.ok.gl (by rfl)) (fun _ _ _ _ => .val _) hk hg hx (by decide)
theorem Su.n_is_seven_bit (S : Su C) (hk : env.scope.kind = .function) (hg : env.globals = mainGlobals) (hx : env.kindOf "is_seven_bit" = some .globalImplicit) : EvE C n env σ (.Name "is_seven_bit" pos) (.val (.ref 201)) := EvE.glob S.ok (mg_of S.K S.ok.gl (by rfl)) (fun _ _ _ _ => .val _) hk hg hx (by decide)
theorem Su.n_in_encoding (S : Su C) (hk : env.scope.kind = .function) (hg : env.globals = mainGlobals) (hx : env.kindOf "in_encoding" = some .globalImplicit) : EvE C n env σ (.Name "in_encoding" pos) (.val (.ref 208)) := EvE.glob S.ok (mg_of S.K S.ok.gl (by rfl)) (fun _ _ _ _ => .val _) hk hg hx (by decide)
theorem Su.n_undone (S : Su C) (hk : env.scope.kind = .function) (hg : env.globals = mainGlobals) (hx : env.kindOf "undone" = some .globalImplicit) : EvE C n env σ (.Name "undone" pos) (.val (.ref 215)) := EvE.glob S.ok (mg_of S.K S.ok.gl (by rfl)) (fun _ _ _ _ => .val _) hk hg hx (by decide)
theorem Su.n_law_draw (S : Su C) (hk : env.scope.kind = .function) (hg : env.globals = mainGlobals) (hx : env.kindOf "_law_draw" = some .globalImplicit) : EvE C n env σ (.Name "_law_draw" pos) (.val (.ref 222)) := EvE.glob S.ok (mg_of S.K S.ok.gl (by rfl)) (fun _ _ _ _ => .val _) hk hg hx (by decide)
theorem Su.n_law_hard_ends (S : Su C) (hk : env.scope.kind = .function) (hg : env.globals = mainGlobals) (hx : env.kindOf "_law_hard_ends" = some .globalImplicit) : EvE C n env σ (.Name "_law_hard_ends" pos) (.val (.ref 228)) := EvE.glob S.ok (mg_of S.K S.ok.gl (by rfl)) (fun _ _ _ _ => .val _) hk hg hx (by decide)
theorem Su.n_PAD (S : Su C) (hk : env.scope.kind = .function) (hg : env.globals = mainGlobals) (hx : env.kindOf "PAD" = some .globalImplicit) : EvE C n env σ (.Name "PAD" pos) (.int 61) := EvE.glob S.ok (mg_of S.K S.ok.gl (by rfl)) (fun _ _ _ _ => .int 61 _) hk hg hx (by decide)
theorem Su.n_RETURN_octets (S : Su C) (hk : env.scope.kind = .function) (hg : env.globals = mainGlobals) (hx : env.kindOf "RETURN_octets" = some .globalImplicit) : EvE C n env σ (.Name "RETURN_octets" pos) (.int 13) := EvE.glob S.ok (mg_of S.K S.ok.gl (by rfl)) (fun _ _ _ _ => .int 13 _) hk hg hx (by decide)
theorem Su.n_EQUALS (S : Su C) (hk : env.scope.kind = .function) (hg : env.globals = mainGlobals) (hx : env.kindOf "EQUALS" = some .globalImplicit) : EvE C n env σ (.Name "EQUALS" pos) (.int 61) := EvE.glob S.ok (mg_of S.K S.ok.gl (by rfl)) (fun _ _ _ _ => .int 61 _) hk hg hx (by decide)
theorem Su.n_BLANK (S : Su C) (hk : env.scope.kind = .function) (hg : env.globals = mainGlobals) (hx : env.kindOf "BLANK" = some .globalImplicit) : EvE C n env σ (.Name "BLANK" pos) (.int 32) := EvE.glob S.ok (mg_of S.K S.ok.gl (by rfl)) (fun _ _ _ _ => .int 32 _) hk hg hx (by decide)
theorem Su.n_TAB (S : Su C) (hk : env.scope.kind = .function) (hg : env.globals = mainGlobals) (hx : env.kindOf "TAB" = some .globalImplicit) : EvE C n env σ (.Name "TAB" pos) (.int 9) := EvE.glob S.ok (mg_of S.K S.ok.gl (by rfl)) (fun _ _ _ _ => .int 9 _) hk hg hx (by decide)
theorem Su.n_RETURN_quoted (S : Su C) (hk : env.scope.kind = .function) (hg : env.globals = mainGlobals) (hx : env.kindOf "RETURN_quoted" = some .globalImplicit) : EvE C n env σ (.Name "RETURN_quoted" pos) (.int 13) := EvE.glob S.ok (mg_of S.K S.ok.gl (by rfl)) (fun _ _ _ _ => .int 13 _) hk hg hx (by decide)
theorem Su.n_LEAST_WIDTH (S : Su C) (hk : env.scope.kind = .function) (hg : env.globals = mainGlobals) (hx : env.kindOf "LEAST_WIDTH" = some .globalImplicit) : EvE C n env σ (.Name "LEAST_WIDTH" pos) (.int 4) := EvE.glob S.ok (mg_of S.K S.ok.gl (by rfl)) (fun _ _ _ _ => .int 4 _) hk hg hx (by decide)
theorem Su.n_MOST_LINE (S : Su C) (hk : env.scope.kind = .function) (hg : env.globals = mainGlobals) (hx : env.kindOf "MOST_LINE" = some .globalImplicit) : EvE C n env σ (.Name "MOST_LINE" pos) (.int 998) := EvE.glob S.ok (mg_of S.K S.ok.gl (by rfl)) (fun _ _ _ _ => .int 998 _) hk hg hx (by decide)
theorem Su.n_SIGNS (S : Su C) (hk : env.scope.kind = .function) (hg : env.globals = mainGlobals) (hx : env.kindOf "SIGNS" = some .globalImplicit) : EvE C n env σ (.Name "SIGNS" pos) (.bytes signs) := EvE.glob S.ok (mg_of S.K S.ok.gl (by rfl)) (fun _ _ _ _ => .bytes signs _) hk hg hx (by decide)
theorem Su.n_LINE_END (S : Su C) (hk : env.scope.kind = .function) (hg : env.globals = mainGlobals) (hx : env.kindOf "LINE_END" = some .globalImplicit) : EvE C n env σ (.Name "LINE_END" pos) (.bytes [13, 10]) := EvE.glob S.ok (mg_of S.K S.ok.gl (by rfl)) (fun _ _ _ _ => .bytes [13, 10] _) hk hg hx (by decide)
theorem Su.n_HEX (S : Su C) (hk : env.scope.kind = .function) (hg : env.globals = mainGlobals) (hx : env.kindOf "HEX" = some .globalImplicit) : EvE C n env σ (.Name "HEX" pos) (.bytes hexes) := EvE.glob S.ok (mg_of S.K S.ok.gl (by rfl)) (fun _ _ _ _ => .bytes hexes _) hk hg hx (by decide)
theorem Su.n_dict (S : Su C) (hk : env.scope.kind = .function) (hg : env.globals = mainGlobals) (hb : env.builtins = builtinsNs) (hx : env.kindOf "dict" = some .globalImplicit) : EvE C n env σ (.Name "dict" pos) (.val (.type "dict")) := EvE.built S.ok (mg_none_of S.K S.ok.gl (by rfl)) ((S.built _ (by decide)).trans (by rfl)) hk hg hb hx (by decide)
theorem Su.n_range (S : Su C) (hk : env.scope.kind = .function) (hg : env.globals = mainGlobals) (hb : env.builtins = builtinsNs) (hx : env.kindOf "range" = some .globalImplicit) : EvE C n env σ (.Name "range" pos) (.val (.type "range")) := EvE.built S.ok (mg_none_of S.K S.ok.gl (by rfl)) ((S.built _ (by decide)).trans (by rfl)) hk hg hb hx (by decide)
theorem Su.n_len (S : Su C) (hk : env.scope.kind = .function) (hg : env.globals = mainGlobals) (hb : env.builtins = builtinsNs) (hx : env.kindOf "len" = some .globalImplicit) : EvE C n env σ (.Name "len" pos) (.val (.builtin "len")) := EvE.built S.ok (mg_none_of S.K S.ok.gl (by rfl)) ((S.built _ (by decide)).trans (by rfl)) hk hg hb hx (by decide)
theorem Su.n_bytes (S : Su C) (hk : env.scope.kind = .function) (hg : env.globals = mainGlobals) (hb : env.builtins = builtinsNs) (hx : env.kindOf "bytes" = some .globalImplicit) : EvE C n env σ (.Name "bytes" pos) (.val (.type "bytes")) := EvE.built S.ok (mg_none_of S.K S.ok.gl (by rfl)) ((S.built _ (by decide)).trans (by rfl)) hk hg hb hx (by decide)
theorem Su.n_max (S : Su C) (hk : env.scope.kind = .function) (hg : env.globals = mainGlobals) (hb : env.builtins = builtinsNs) (hx : env.kindOf "max" = some .globalImplicit) : EvE C n env σ (.Name "max" pos) (.val (.builtin "max")) := EvE.built S.ok (mg_none_of S.K S.ok.gl (by rfl)) ((S.built _ (by decide)).trans (by rfl)) hk hg hb hx (by decide)
theorem Su.n_min (S : Su C) (hk : env.scope.kind = .function) (hg : env.globals = mainGlobals) (hb : env.builtins = builtinsNs) (hx : env.kindOf "min" = some .globalImplicit) : EvE C n env σ (.Name "min" pos) (.val (.builtin "min")) := EvE.built S.ok (mg_none_of S.K S.ok.gl (by rfl)) ((S.built _ (by decide)).trans (by rfl)) hk hg hb hx (by decide)
theorem Su.n_list (S : Su C) (hk : env.scope.kind = .function) (hg : env.globals = mainGlobals) (hb : env.builtins = builtinsNs) (hx : env.kindOf "list" = some .globalImplicit) : EvE C n env σ (.Name "list" pos) (.val (.type "list")) := EvE.built S.ok (mg_none_of S.K S.ok.gl (by rfl)) ((S.built _ (by decide)).trans (by rfl)) hk hg hb hx (by decide)
theorem Su.n_chr (S : Su C) (hk : env.scope.kind = .function) (hg : env.globals = mainGlobals) (hb : env.builtins = builtinsNs) (hx : env.kindOf "chr" = some .globalImplicit) : EvE C n env σ (.Name "chr" pos) (.val (.builtin "chr")) := EvE.built S.ok (mg_none_of S.K S.ok.gl (by rfl)) ((S.built _ (by decide)).trans (by rfl)) hk hg hb hx (by decide)
end
end Mine
end
section
open PySem PySem.W PyProof.Rows PySem.Calls PySem.P
namespace Mine
section
variable {C : Cx} {n : Nat} {env : Env} {σ : Loc} {Φ : Out → Prop} {rest : List Stmt}
theorem o_andN {a b : Nat} : Op2 C n (binaryOp .BitAnd) (.int a) (.int b) (.int ((a &&& b : Nat) : Int)) := by
  refine o_and.conv ?_
  rw [bitAnd_pp (by omega) (by omega)]; rfl
theorem o_shrN {a b : Nat} : Op2 C n (binaryOp .RShift) (.int a) (.int b) (.int ((a / 2 ^ b : Nat) : Int)) := by
  refine (o_shr (by omega)).conv ?_
  rw [Int.toNat_natCast]
  congr 1
  rw [show ((2 : Int) ^ b) = ((2 ^ b : Nat) : Int) by push_cast; rfl, Int.fdiv_eq_ediv_of_nonneg _ (Int.natCast_nonneg _)]
  rfl
theorem o_shlN {a b : Nat} (ha : a < 2 ^ 64) (hb : b ≤ 1000000) : Op2 C n (binaryOp .LShift) (.int a) (.int b) (.int ((a * 2 ^ b : Nat) : Int)) := by
  refine (o_shl (by omega) (by omega) (by omega)).conv ?_
  rw [Int.toNat_natCast]
  push_cast
  rfl
theorem intBits_small {a : Int} (h0 : 0 ≤ a) (h : a < 2 ^ 60) : Builtin.Int.intBits a ≤ 64 := by
  have h1 : a.natAbs < 2 ^ 60 := by omega
  unfold Builtin.Int.intBits
  split
  · omega
  · rename_i hne
    have : a.natAbs.log2 < 60 := by
      rw [Nat.log2_lt]
      · exact h1
      · simpa using hne
    omega
theorem o_mulS {a b : Int} (h0 : 0 ≤ a) (h : a < 2 ^ 60) : Op2 C n (binaryOp .Mult) (.int a) (.int b) (.int (a * b)) := o_mul (.of_left (intBits_small h0 h))
noncomputable def goodPs (ps : List PV) : Bool := ps.all (fun p => !p.isOwn) && Nat.ble ps.length 1000
theorem goodPs.own {ps : List PV} (h : goodPs ps = true) : ps.all (fun p => !p.isOwn) = true := by
  unfold goodPs at h; rw [Bool.and_eq_true] at h; exact h.1
theorem goodPs.len {ps : List PV} (h : goodPs ps = true) : ps.length ≤ 1000 := by
  unfold goodPs at h; rw [Bool.and_eq_true] at h; exact Nat.le_of_ble_eq_true h.2
theorem e_list {es : List Expr} {ps : List PV} {pos : Pos} (H : EvAll C n env σ es ps) (h : goodPs ps = true) : EvE C n env σ (.List es pos) (.lst ps) := .list H (goodPs.own h) (goodPs.len h)
theorem e_tuple {es : List Expr} {ps : List PV} {k : Nat} {pos : Pos} (H : EvAll C n env σ es ps) (h : goodPs ps = true) : EvE C n env σ (.Tuple es k pos) (.tup ps) := .tuple H (goodPs.own h) (goodPs.len h)
theorem then_ret {p : PV} (h : Φ (.ret p)) : thenS C n env rest Φ (.ret p) := h
theorem then_brk {τ : Loc} (h : Φ (.brk τ)) : thenS C n env rest Φ (.brk τ) := h
theorem then_next {τ : Loc} (h : ExS C n env τ rest Φ) : thenS C n env rest Φ (.next τ) := h
theorem xs_forL {target iter : Expr} {body : List Stmt} {pos : Pos} {a : PV} {xs : List PV} (J : Nat → Loc → Prop) (ext : PV → Loc) (he : EvE C n env σ iter a) (hs : ∀ x, foldedSetIterable iter env x = pure x) (hit : IterR C n a xs) (hasg : ∀ x ∈ xs, AsgR C n env target x (ext x)) (h0 : J 0 σ)
    (turn : ∀ i x τ, xs[i]? = some x → J i τ → ExS C n env (ext x ++ τ) body (turnS (J (i + 1)) (thenS C n env rest Φ))) (done : ∀ τ, J xs.length τ → ExS C n env τ rest Φ) : ExS C n env σ (.For target iter body [] pos :: rest) Φ :=
  .cons (.forL J ext he hit hasg h0 turn done hs)
theorem xs_whileL {test : Expr} {body : List Stmt} {pos : Pos} (J : Nat → Loc → Prop) (k₀ : Nat) (h0 : J k₀ σ)
    (turn : ∀ k τ, J k τ → ∃ b, EvB C n env τ test b ∧ (b = true → ExS C n env τ body (turnS (fun τ' => ∃ m, m < k ∧ J m τ') (thenS C n env rest Φ))) ∧ (b = false → ExS C n env τ rest Φ)) : ExS C n env σ (.While test body [] pos :: rest) Φ :=
  .cons (.whileL J k₀ h0 turn)
theorem xs_append {x : Str} {np apos cpos pos : Pos} {e : Expr} {p : PV} {l : List PV} {pl : Sem Bool} (hs : σ.lookup x = some (.own l)) (hk : env.scope.kind = .function) (hd : (x == ("__debug__" : Str)) = false)
    (hsw : swapsWith (.Call (.Attribute (.Name x np) "append" apos) [e] [] cpos) none pos.line env = pure false)
    (hev : eval (.Call (.Attribute (.Name x np) "append" apos) [e] [] cpos) env = (do
      let ov ← eval (.Name x np) env
      standAt apos.atName
      let (f, first) ← holding [ov] (getMethod ov "append" pl)
      callWith cpos f first (backTo cpos (starEach [e] env)) []))
    (hse : ∀ rest, starEach (e :: rest) env = (false, eval e env) :: starEach rest env) (he : EvE C n env σ e p) (ho : p.isOwn = false) (hz : l.length ≤ 16000000) (h : ExS C n env ((x, .own (l ++ [p])) :: σ) rest Φ) : ExS C n env σ (.Expr (.Call (.Attribute (.Name x np) "append" apos) [e] [] cpos) pos :: rest) Φ :=
  .cons (.append (pl := pl) hs he ho hz hk h hsw hev hse hd)
theorem xs_extend {x : Str} {np apos cpos pos : Pos} {e : Expr} {l l₂ : List PV} {pl : Sem Bool} (hs : σ.lookup x = some (.own l)) (hk : env.scope.kind = .function) (hd : (x == ("__debug__" : Str)) = false)
    (hsw : swapsWith (.Call (.Attribute (.Name x np) "extend" apos) [e] [] cpos) none pos.line env = pure false)
    (hev : eval (.Call (.Attribute (.Name x np) "extend" apos) [e] [] cpos) env = (do
      let ov ← eval (.Name x np) env
      standAt apos.atName
      let (f, first) ← holding [ov] (getMethod ov "extend" pl)
      callWith cpos f first (backTo cpos (starEach [e] env)) []))
    (hse : ∀ rest, starEach (e :: rest) env = (false, eval e env) :: starEach rest env) (he : EvE C n env σ e (.lst l₂)) (hz : l.length + l₂.length ≤ 16000000) (h : ExS C n env ((x, .own (l ++ l₂)) :: σ) rest Φ) : ExS C n env σ (.Expr (.Call (.Attribute (.Name x np) "extend" apos) [e] [] cpos) pos :: rest) Φ :=
  .cons (.extend (pl := pl) hs he hz hk h hsw hev hse hd)
end
theorem vs1 {vs : List Value} {p : PV} (hl : vs.length = [p].length) : ∃ v, vs = [v] := List.length_eq_one_iff.mp hl
theorem vs2 {vs : List Value} {p q : PV} (hl : vs.length = [p, q].length) : ∃ v u, vs = [v, u] := by
  obtain ⟨v, r, rfl⟩ := List.exists_cons_of_length_eq_add_one hl
  obtain ⟨u, rfl⟩ := vs1 (p := q) (Nat.succ.inj hl)
  exact ⟨v, u, rfl⟩
theorem vs3 {vs : List Value} {p q r : PV} (hl : vs.length = [p, q, r].length) : ∃ v u w, vs = [v, u, w] := by
  obtain ⟨v, s, rfl⟩ := List.exists_cons_of_length_eq_add_one hl
  obtain ⟨u, w, rfl⟩ := vs2 (p := q) (q := r) (Nat.succ.inj hl)
  exact ⟨v, u, w, rfl⟩
theorem bind1 {s : Shared} {fd : FuncData} {x : Str} {p : PV} {vs : List Value} (hl : vs.length = [p].length) (h : ∀ v, bindArgs fd ⟨[v], []⟩ = pure [(x, v)]) : BindsTo s fd ⟨vs, []⟩ ([x].zip (vs ++ [])) := by
  obtain ⟨v, rfl⟩ := vs1 hl
  exact BindsTo.of_eq (h v)
theorem bind2 {s : Shared} {fd : FuncData} {x y : Str} {p q : PV} {vs : List Value} (hl : vs.length = [p, q].length) (h : ∀ v u, bindArgs fd ⟨[v, u], []⟩ = pure [(x, v), (y, u)]) : BindsTo s fd ⟨vs, []⟩ ([x, y].zip (vs ++ [])) := by
  obtain ⟨v, u, rfl⟩ := vs2 hl
  exact BindsTo.of_eq (h v u)
theorem bind3 {s : Shared} {fd : FuncData} {x y z : Str} {p q r : PV} {vs : List Value} (hl : vs.length = [p, q, r].length) (h : ∀ v u w, bindArgs fd ⟨[v, u, w], []⟩ = pure [(x, v), (y, u), (z, w)]) : BindsTo s fd ⟨vs, []⟩ ([x, y, z].zip (vs ++ [])) := by
  obtain ⟨v, u, w, rfl⟩ := vs3 hl
  exact BindsTo.of_eq (h v u w)
noncomputable def PK (sc : Scope) (x : Str) : Prop := sc.names.lookup x = some .local ∨ (sc.names.lookup x = some .cell ∧ ∀ L, ((cellsFrom L sc.names []).lookup x).isSome = true)
theorem pk1 {sc : Scope} {x : Str} (a : PK sc x) : ∀ z ∈ [x], PK sc z := by
  intro z h
  rw [List.mem_singleton.mp h]; exact a
theorem pk2 {sc : Scope} {x y : Str} (a : PK sc x) (b : PK sc y) : ∀ z ∈ [x, y], PK sc z := by
  intro z h
  rcases List.mem_cons.mp h with rfl | h
  · exact a
  · exact pk1 b z h
theorem pk3 {sc : Scope} {x y w : Str} (a : PK sc x) (b : PK sc y) (c : PK sc w) : ∀ z ∈ [x, y, w], PK sc z := by
  intro z h
  rcases List.mem_cons.mp h with rfl | h
  · exact a
  · exact pk2 b c z h
theorem PK.l {sc : Scope} {x : Str} (h : sc.names.lookup x = some .local) : PK sc x := .inl h
theorem PK.c {sc : Scope} {x : Str} (h : sc.names.lookup x = some .cell) (k : ∀ L, ((cellsFrom L sc.names []).lookup x).isSome = true) : PK sc x := .inr ⟨h, k⟩
end Mine
end
section
open PySem PySem.W PyProof.Rows PySem.Calls PySem.P
namespace Mine
section
variable {C : Cx} {n : Nat} {env : Env} {σ : Loc} {Φ : Out → Prop} {rest : List Stmt}
/-- what a map of names tells at least -/
noncomputable def Knows (τ σ : Loc) : Prop := ∀ q ∈ σ, τ.lookup q.1 = some q.2
theorem Knows.nil {τ : Loc} : Knows τ [] := fun _ h => nomatch h
theorem Knows.cons {τ r : Loc} {x : Str} {p p' : PV} (h : τ.lookup x = some p') (e : p' = p) (k : Knows τ r) : Knows τ ((x, p) :: r) := fun q hq => by
  rcases List.mem_cons.mp hq with rfl | hq
  · exact e ▸ h
  · exact k q hq
theorem lookup_append {ext τ : Loc} {x : Str} : (ext ++ τ).lookup x = (ext.lookup x).or (τ.lookup x) := by
  induction ext with
  | nil => rfl
  | cons q r ih =>
    obtain ⟨y, p⟩ := q
    rw [List.cons_append, List.lookup_cons, List.lookup_cons]
    split
    · rfl
    · exact ih
theorem Knows.more {ext τ σ' : Loc} (k : Knows τ σ') : ∀ x p, (ext ++ σ').lookup x = some p → (ext ++ τ).lookup x = some p := by
  intro x p h
  rw [lookup_append] at h ⊢
  cases e : ext.lookup x with
  | some q => rw [e] at h; exact h
  | none =>
    rw [e] at h
    have h' : σ'.lookup x = some p := h
    have := sub_of k x p h'
    rw [this]; rfl
theorem Knows.all {τ σ' : Loc} (k : Knows τ σ') : ∀ x p, σ'.lookup x = some p → τ.lookup x = some p := sub_of k
theorem EvB.weaken {σ' : Loc} {e : Expr} {b : Bool} (h : EvB C n env σ' e b) (k : ∀ x p, σ'.lookup x = some p → σ.lookup x = some p) : EvB C n env σ e b := fun A Pout W s hA S => h A Pout W s hA (S.weaken k)
theorem EvE.weaken {σ' : Loc} {e : Expr} {b : PV} (h : EvE C n env σ' e b) (k : ∀ x p, σ'.lookup x = some p → σ.lookup x = some p) : EvE C n env σ e b := fun A Pout W s hA S => h A Pout W s hA (S.weaken k)
theorem xs_forK {target iter : Expr} {body : List Stmt} {pos : Pos} {a : PV} {xs : List PV} (ext : PV → Loc) (σi : Nat → Loc) (he : EvE C n env σ iter a) (hs : ∀ x, foldedSetIterable iter env x = pure x) (hit : IterR C n a xs) (hasg : ∀ x ∈ xs, AsgR C n env target x (ext x)) (h0 : Knows σ (σi 0))
    (turn : ∀ i x, xs[i]? = some x → ExS C n env (ext x ++ σi i) body (turnS (fun τ => Knows τ (σi (i + 1))) (thenS C n env rest Φ))) (done : ExS C n env (σi xs.length) rest Φ) : ExS C n env σ (.For target iter body [] pos :: rest) Φ :=
  xs_forL (fun i τ => Knows τ (σi i)) ext he hs hit hasg h0 (fun i x τ hx k => (turn i x hx).weaken k.more) (fun τ k => done.weaken k.all)
theorem xs_whileK {D : Type} {test : Expr} {body : List Stmt} {pos : Pos} (σd : D → Loc) (P : D → Prop) (μ : D → Nat) (d₀ : D) (h0 : P d₀) (hk : Knows σ (σd d₀))
    (turn : ∀ d, P d → ∃ b, EvB C n env (σd d) test b ∧ (b = true → ExS C n env (σd d) body (turnS (fun τ => ∃ d', P d' ∧ μ d' < μ d ∧ Knows τ (σd d')) (thenS C n env rest Φ))) ∧ (b = false → ExS C n env (σd d) rest Φ)) : ExS C n env σ (.While test body [] pos :: rest) Φ := by
  refine xs_whileL (fun k τ => ∃ d, P d ∧ μ d = k ∧ Knows τ (σd d)) (μ d₀) ⟨d₀, h0, rfl, hk⟩ ?_
  rintro _ τ ⟨d, hP, rfl, k⟩
  obtain ⟨b, h1, h2, h3⟩ := turn d hP
  refine ⟨b, h1.weaken k.all, fun e => ((h2 e).weaken k.all).mono fun o ho => ?_, fun e => (h3 e).weaken k.all⟩
  have conv : ∀ τ', (∃ d', P d' ∧ μ d' < μ d ∧ Knows τ' (σd d')) → ∃ m, m < μ d ∧ ∃ d', P d' ∧ μ d' = m ∧ Knows τ' (σd d') := fun τ' ⟨d', a, b, c⟩ => ⟨_, b, d', a, rfl, c⟩
  cases o with
  | next τ' => exact conv τ' ho
  | cont τ' => exact conv τ' ho
  | brk τ' => exact ho
  | ret p => exact ho
theorem turn_next {J : Loc → Prop} {τ : Loc} (h : J τ) : turnS J Φ (.next τ) := h
theorem turn_ret {J : Loc → Prop} {p : PV} (h : Φ (.ret p)) : turnS J Φ (.ret p) := h
theorem turn_brk {J : Loc → Prop} {τ : Loc} (h : Φ (.next τ)) : turnS J Φ (.brk τ) := h
theorem xs_nil' {st : Out → Prop} (h : st (.next σ)) : ExS C n env σ [] st := .nil h
theorem EvP.none' : EvP C n env σ none none := True.intro
theorem EvP.some' {e : Expr} {i : Int} (h : EvE C n env σ e (.int i)) : EvP C n env σ (some e) (some i) := h
end
section
variable {C : Cx} {n : Nat}
theorem g_bl {ps : List (List UInt8)} {i : Nat} (h : i < ps.length) (hz : ps.length ≤ 16777216) : Op2 C n getItem (.lst (ps.map .bytes)) (.int i) (.bytes (ps.getD i [])) := by
  refine g_list (l := ps.map .bytes) rfl (by omega) ?_ (by rw [List.length_map]; exact hz)
  rw [Int.toNat_natCast, List.getElem?_map, List.getElem?_eq_getElem h]
  simp [List.getD_eq_getElem?_getD, h]
theorem c_lenBL {ps : List (List UInt8)} (hz : ps.length ≤ 16777216) : CallR C n (.builtin "len") [.lst (ps.map .bytes)] (.int ps.length) :=
  (c_lenL (l := ps.map .bytes) rfl (by rw [List.length_map]; exact hz)).conv (by rw [List.length_map])
theorem c_lenOB {ps : List (List UInt8)} (hz : ps.length ≤ 16777216) : CallR C n (.builtin "len") [.own (ps.map .bytes)] (.int ps.length) :=
  (c_lenL (l := ps.map .bytes) rfl (by rw [List.length_map]; exact hz)).conv (by rw [List.length_map])
theorem c_bytes61 : CallR C n (.type "bytes") [.lst [.int 61]] (.bytes [61]) := c_bytes (l := [61]) rfl (by decide)
theorem o_addOwn {l m : List PV} (hz : l.length + m.length ≤ 16777216) : Op2 C n (binaryOp .Add) (.own l) (.lst m) (.lst (l ++ m)) := o_addL rfl rfl hz
theorem g_cutBL {ps : List (List UInt8)} {lo hi : Option Int} (hz : ps.length ≤ 16777216) : Op2 C n getItem (.lst (ps.map .bytes)) (.slc lo hi) (.lst ((cut ps lo hi).map .bytes)) := by
  refine (g_cutL (l := ps.map .bytes) rfl (by rw [List.length_map]; exact hz)).conv ?_
  unfold cut
  simp
theorem g_cutOB {ps : List (List UInt8)} {lo hi : Option Int} (hz : ps.length ≤ 16777216) : Op2 C n getItem (.own (ps.map .bytes)) (.slc lo hi) (.lst ((cut ps lo hi).map .bytes)) := by
  refine (g_cutL (l := ps.map .bytes) rfl (by rw [List.length_map]; exact hz)).conv ?_
  unfold cut
  simp
theorem c_joinO {sep : List UInt8} {bs : List (List UInt8)} (hz : (bs.map List.length).sum + sep.length * bs.length ≤ 16777216) : CallR C n (.builtin "bytes.join") [.bytes sep, .own (bs.map .bytes)] (.bytes (sep.intercalate bs)) := c_join rfl hz
theorem c_joinL {sep : List UInt8} {bs : List (List UInt8)} (hz : (bs.map List.length).sum + sep.length * bs.length ≤ 16777216) : CallR C n (.builtin "bytes.join") [.bytes sep, .lst (bs.map .bytes)] (.bytes (sep.intercalate bs)) := c_join rfl hz
theorem Items.own {l : List PV} : Items C (.own l) := Items.list rfl
theorem Items.lst {l : List PV} : Items C (.lst l) := Items.list rfl
end
theorem inter_nil (bs : List (List UInt8)) : ([] : List UInt8).intercalate bs = bs.flatten := by
  match bs with
  | [] => rfl
  | [b] => simp [List.intercalate]
  | b :: c :: bs =>
    have := inter_nil (c :: bs)
    simp only [List.intercalate, List.intersperse_cons_cons, List.flatten_cons, List.nil_append] at this ⊢
    rw [this]
theorem own_snocB {f : Nat → List UInt8} {i : Nat} {y : List UInt8} (h : y = f i) : PV.own (((List.range i).map f).map PV.bytes ++ [PV.bytes y]) = PV.own (((List.range (i + 1)).map f).map PV.bytes) := by
  rw [List.range_succ, List.map_append, List.map_append, h]; rfl
theorem clipN (n : Nat) {x : Int} {a : Nat} (h : x = a) : clipAt n x = min a n := by
  subst h
  unfold clipAt
  rw [if_neg (by omega)]
  omega
theorem cutNN {α : Type} {l : List α} {x y : Int} {a b : Nat} (hx : x = a) (hy : y = b) : cut l (some x) (some y) = (l.drop a).take (b - a) := by
  unfold cut
  simp only [Option.elim_some, clipN _ hx, clipN _ hy]
  rcases Nat.le_total a l.length with h | h
  · rw [Nat.min_eq_left h]
    rcases Nat.le_total b l.length with h' | h'
    · rw [Nat.min_eq_left h']
    · rw [Nat.min_eq_right h', List.take_of_length_le (by rw [List.length_drop]; exact Nat.le_refl _), List.take_of_length_le (by rw [List.length_drop]; omega)]
  · rw [Nat.min_eq_right h, List.drop_length, List.drop_eq_nil_iff.mpr h, List.take_nil, List.take_nil]
theorem cutN {α : Type} {l : List α} {x : Int} {a : Nat} (hx : x = a) : cut l (some x) none = l.drop a := by
  unfold cut
  simp only [Option.elim_some, Option.elim_none, clipN _ hx]
  rcases Nat.le_total a l.length with h | h
  · rw [Nat.min_eq_left h, List.take_of_length_le (by rw [List.length_drop]; exact Nat.le_refl _)]
  · rw [Nat.min_eq_right h, List.drop_length, List.drop_eq_nil_iff.mpr h, List.take_nil]
theorem cut0N {α : Type} {l : List α} {y : Int} {b : Nat} (hy : y = b) : cut l none (some y) = l.take b := by
  unfold cut
  simp only [Option.elim_some, Option.elim_none, clipN _ hy, List.drop_zero, Nat.sub_zero]
  rcases Nat.le_total b l.length with h | h
  · rw [Nat.min_eq_left h]
  · rw [Nat.min_eq_right h, List.take_length, List.take_of_length_le h]
theorem cut_last {α : Type} {l : List α} : cut l (some (-1)) none = l.drop (l.length - 1) := by
  unfold cut
  simp only [Option.elim_some, Option.elim_none]
  have e : clipAt l.length (-1) = l.length - 1 := by unfold clipAt; simp; omega
  rw [e, List.take_of_length_le (by rw [List.length_drop]; exact Nat.le_refl _)]
theorem cut_init {α : Type} {l : List α} : cut l none (some (-1)) = l.dropLast := by
  unfold cut
  simp only [Option.elim_some, Option.elim_none, List.drop_zero, Nat.sub_zero]
  have e : clipAt l.length (-1) = l.length - 1 := by unfold clipAt; simp; omega
  rw [e, List.dropLast_eq_take]
theorem own_snoc {f : Nat → PV} {i : Nat} {y : PV} (h : y = f i) : PV.own ((List.range i).map f ++ [y]) = PV.own ((List.range (i + 1)).map f) := by
  rw [List.range_succ, List.map_append, h]; rfl
theorem rng_at {lo st : Int} {k i : Nat} {x : PV} (h : (rngInts lo k st)[i]? = some x) : i < k ∧ x = .int (lo + i * st) := by
  have hl := (List.getElem?_eq_some_iff.mp h).1
  have hl : i < k := by simpa [rngInts] using hl
  unfold rngInts at h
  rw [List.getElem?_map, List.getElem?_range hl] at h
  cases h
  exact ⟨hl, rfl⟩
theorem rng_at0 {k i : Nat} {x : PV} (h : (rngInts 0 k 1)[i]? = some x) : i < k ∧ x = .int i := by
  obtain ⟨a, b⟩ := rng_at h
  exact ⟨a, by rw [b]; congr 1; omega⟩
theorem rng_len {lo st : Int} {k : Nat} : (rngInts lo k st).length = k := by simp [rngInts]
theorem ints_at {l : List UInt8} {i : Nat} {x : PV} (h : (intsOf l)[i]? = some x) : ∃ c, l[i]? = some c ∧ x = .int c.toNat := by
  unfold intsOf at h
  rw [List.getElem?_map] at h
  obtain ⟨j, hj, rfl⟩ := Option.map_eq_some_iff.mp h
  exact ⟨j, hj, rfl⟩
theorem getD_of {l : List UInt8} {i : Nat} (h : i < l.length) : l.getD i 0 = l[i] := by simp [List.getD_eq_getElem?_getD, h]
end Mine
end
open PySem PySem.W PyProof.Rows PySem.Calls PySem.P
namespace Mine
local macro_rules | `(tactic| tm_at "lit") => `(tactic| (conv => arg 5; whnf))
local macro_rules | `(tactic| tm_at "side") => `(tactic| first | omega | with_reducible assumption | with_reducible rfl | decide | (simp only [List.length_append, List.length_cons, List.length_nil, List.length_map, List.length_range]; omega) | (simp only [Bool.and_eq_true, decide_eq_true_eq, decide_eq_false_iff_not, Bool.not_eq_true', Bool.not_eq_false'] at *; omega))
local macro_rules | `(tactic| tm_at "op") => `(tactic| with_reducible first
  | exact o_add | exact o_sub | exact o_eq | exact o_ne | exact o_lt | exact o_le | exact o_gt | exact o_ge | exact o_neg | exact o_not | exact o_eqStr | exact o_eqB | exact o_neB | exact o_and
  | refine' o_div ?_ ?_ | refine' o_mod ?_ | refine' o_shr ?_ | refine' o_mulS ?_ ?_ | refine' o_shl ?_ ?_ ?_ | refine' o_addB ?_ | refine' o_mulB ?_ ?_ ?_ ?_ | refine' g_bl ?_ ?_ | refine' g_cutBL ?_ | refine' g_cutOB ?_ | refine' o_addOwn ?_ | refine' g_byte ?_ ?_ ?_ | refine' g_cutB ?_ | refine' c_lenB ?_)
set_option hygiene false in
local macro_rules | `(tactic| tm_at "built") => `(tactic| with_reducible first
  | refine' Su.n_len S ?_ ?_ ?_ ?_ | refine' Su.n_range S ?_ ?_ ?_ ?_ | refine' Su.n_bytes S ?_ ?_ ?_ ?_ | refine' Su.n_max S ?_ ?_ ?_ ?_ | refine' Su.n_list S ?_ ?_ ?_ ?_ | refine' Su.n_chr S ?_ ?_ ?_ ?_ | refine' Su.n_dict S ?_ ?_ ?_ ?_)
set_option hygiene false in
local macro_rules | `(tactic| tm_at "glob") => `(tactic| with_reducible first
  | refine' Su.n_EQUALS S ?_ ?_ ?_ | refine' Su.n_BLANK S ?_ ?_ ?_ | refine' Su.n_TAB S ?_ ?_ ?_ | refine' Su.n_HEX S ?_ ?_ ?_ | refine' Su.n_RETURN_octets S ?_ ?_ ?_ | refine' Su.n_RETURN_quoted S ?_ ?_ ?_ | refine' Su.n_LEAST_WIDTH S ?_ ?_ ?_ | refine' Su.n_MOST_LINE S ?_ ?_ ?_ | refine' Su.n_PAD S ?_ ?_ ?_ | refine' Su.n_SIGNS S ?_ ?_ ?_ | refine' Su.n_LINE_END S ?_ ?_ ?_
  | refine' Su.n_worth_table S ?_ ?_ ?_ | refine' Su.n_group_codes S ?_ ?_ ?_ | refine' Su.n_group_octets S ?_ ?_ ?_ | refine' Su.n_part_encoded S ?_ ?_ ?_ | refine' Su.n_one_line S ?_ ?_ ?_ | refine' Su.n_in_lines S ?_ ?_ ?_ | refine' Su.n_encoded S ?_ ?_ ?_ | refine' Su.n_decoded S ?_ ?_ ?_ | refine' Su.n_line_spans S ?_ ?_ ?_
  | refine' Su.n_quoted_code S ?_ ?_ ?_ | refine' Su.n_hex_worth S ?_ ?_ ?_ | refine' Su.n_quoted_at S ?_ ?_ ?_ | refine' Su.n_is_plain S ?_ ?_ ?_ | refine' Su.n_line_pieces S ?_ ?_ ?_ | refine' Su.n_soft_lines S ?_ ?_ ?_ | refine' Su.n_text_lines S ?_ ?_ ?_ | refine' Su.n_quoted_encoded S ?_ ?_ ?_ | refine' Su.n_joined_lines S ?_ ?_ ?_ | refine' Su.n_line_parts S ?_ ?_ ?_ | refine' Su.n_unquoted S ?_ ?_ ?_ | refine' Su.n_quoted_decoded S ?_ ?_ ?_
  | refine' Su.n_is_seven_bit S ?_ ?_ ?_ | refine' Su.n_in_encoding S ?_ ?_ ?_ | refine' Su.n_undone S ?_ ?_ ?_ | refine' Su.n_law_draw S ?_ ?_ ?_ | refine' Su.n_law_hard_ends S ?_ ?_ ?_)
local macro_rules | `(tactic| tm_at "name") => `(tactic| first
  | ((with_reducible refine' EvE.name ?e ?k ?d); (case e => exact rfl); (case k => exact rfl); (case d => decide))
  | (tm_at "built" <;> exact rfl)
  | (tm_at "glob" <;> exact rfl))
set_option hygiene false in
local macro_rules | `(tactic| tm_at "callee") => `(tactic| first
  | with_reducible exact KeepOf.builtin | with_reducible exact KeepOf.type
  | ((with_reducible show KeepOf _ (Value.ref _)); exact KeepOf.fn (Su.K S _ _ rfl) rfl))
local macro_rules | `(tactic| tm_at "ev") => `(tactic| first
  | with_reducible exact EvE.cInt | with_reducible exact EvE.cBytes | with_reducible exact EvE.cStr | with_reducible exact EvE.cBool
  | tm_at "name"
  | with_reducible refine' EvE.binop ?_ ?_ ?_
  | with_reducible refine' EvE.unop ?_ ?_
  | ((with_reducible refine' EvE.cmp ?_ ?_ ?_ ?z); (case z => exact rfl))
  | ((with_reducible refine' EvE.chain ?_ ?_ ?_ ?_ (fun _ => ?_) ?z); (case z => exact rfl))
  | ((with_reducible refine' EvE.sub ?_ ?_ ?_ ?_ ?z); (case z => exact fun _ _ => ⟨_, rfl⟩))
  | with_reducible exact Items.bytes | with_reducible exact Items.lst | with_reducible exact Items.own | with_reducible exact Items.tup | with_reducible exact Items.tab
  | with_reducible refine' EvE.meth ?_ ?_ ?_ ?_ ?_
  | with_reducible exact m_split | with_reducible exact m_find | with_reducible exact m_join | with_reducible exact m_rstrip | with_reducible exact m_isalnum
  | ((with_reducible show eval _ _ = _); exact rfl)
  | with_reducible refine' EvE.boolOne ?_
  | with_reducible refine' EvE.and ?_ (fun _ => ?_)
  | with_reducible refine' EvE.or ?_ (fun _ => ?_)
  | with_reducible refine' EvE.call ?_ ?_ ?_ ?_
  | tm_at "callee"
  | ((with_reducible refine' EvAll.cons ?_ ?_ ?z); (case z => exact fun _ => rfl))
  | with_reducible exact EvAll.nil
  | ((with_reducible refine' EvB.cmp ?_ ?_ ?_ ?z); (case z => exact rfl))
  | ((with_reducible refine' EvB.chain ?_ ?_ ?_ ?_ (fun _ => ?_) ?z); (case z => exact rfl))
  | with_reducible refine' EvB.and ?_ (fun _ => ?_)
  | with_reducible refine' EvB.or ?_ (fun _ => ?_)
  | with_reducible refine' EvB.not ?_
  | with_reducible exact EvB.andNil | with_reducible exact EvB.orNil
  | ((with_reducible refine' EvE.plainTest ?_ ?z); (case z => exact fun _ => rfl))
  | tm_at "op"
  | tm_at "calls"
  | with_reducible refine' e_list ?_ ?_ | with_reducible refine' e_tuple ?_ ?_ | ((with_reducible show goodPs _ = true); exact rfl)
  | ((with_reducible refine' EvE.iteI ?_ (fun _ => ?_) (fun _ => ?_))))
set_option hygiene false in
local macro_rules | `(tactic| tm_at "calls") => `(tactic| with_reducible first
  | exact c_range1 rfl (by omega) | refine' c_lenB ?_ | exact c_max | refine' c_lenBL ?_ | refine' c_lenOB ?_ | exact c_bytes61 | refine' c_split ?_ | refine' c_joinO ?_ | refine' c_joinL ?_ | refine' c_rstrip ?_)
local macro_rules | `(tactic| tm_at "slice") => `(tactic| first
  | with_reducible refine' EvE.slice ?_ ?_
  | with_reducible exact EvP.none'
  | with_reducible refine' EvP.some' ?_)
local macro_rules | `(tactic| tm_at "st") => `(tactic| first
  | with_reducible refine' xs_if ?_ (fun _ => ?_) (fun _ => ?_)
  | ((with_reducible refine' xs_newOwn ?k ?x ?_); (case k => exact rfl); (case x => exact rfl))
  | ((with_reducible refine' xs_assign ?_ ?_ (stored_local ?k ?x) ?z ?_); (case k => exact rfl); (case x => exact rfl); (case z => exact rfl))
  | ((with_reducible refine' xs_assign ?_ ?_ (stored_cell ?k ?f ?x ?c) ?z ?_); (case k => exact rfl); (case f => exact rfl); (case x => exact rfl); (case c => exact rfl); (case z => exact rfl))
  | ((with_reducible refine' xs_append ?s ?k ?d ?w ?v ?e ?_ ?_ ?_ ?_); (case s => exact rfl); (case k => exact rfl); (case d => decide); (case w => exact rfl); (case v => exact rfl); (case e => exact fun _ => rfl))
  | ((with_reducible refine' xs_extend ?s ?k ?d ?w ?v ?e ?_ ?_ ?_); (case s => exact rfl); (case k => exact rfl); (case d => decide); (case w => exact rfl); (case v => exact rfl); (case e => exact fun _ => rfl))
  | ((with_reducible refine' xs_retOwn ?s ?k ?_ ?d); (case s => exact rfl); (case k => exact rfl); (case d => decide))
  | ((with_reducible refine' xs_ret ?_ ?_ ?_))
  | with_reducible refine' xs_nil ?_
  | with_reducible refine' xs_nil' (turn_next ?_)
  | with_reducible refine' turn_next ?_
  | with_reducible refine' turn_ret ?_
  | with_reducible refine' turn_brk ?_
  | with_reducible exact Knows.nil
  | ((with_reducible refine' Knows.cons ?h ?_ ?_); (case h => exact rfl))
  | with_reducible refine' xs_brk ?_
  | with_reducible refine' then_ret ?_
  | with_reducible refine' then_brk ?_
  | with_reducible refine' then_next ?_
  | ((with_reducible show PV.isOwn _ = false); exact rfl))
local macro_rules | `(tactic| tm_at "go") => `(tactic| repeat' (first | tm_at "st" | tm_at "ev" | tm_at "slice"))
section
variable {C : Cx} {n : Nat}
noncomputable def hexWorth (c : Int) : Int := if 48 ≤ c ∧ c ≤ 57 then c - 48 else if 65 ≤ c ∧ c ≤ 70 then c - 55 else if 97 ≤ c ∧ c ≤ 102 then c - 87 else -1
theorem hex_worth_ok (S : Su C) (c : Int) : CallR C (n + 1) (.ref 125) [.int c] (.int (hexWorth c)) := by
  refine CallR.fn (params := ["code"]) (dp := []) (dv := []) S.ok (S.K 125 _ rfl) rfl (codeRec_of S.K rfl) rfl rfl (fun s vs hl _ => bind1 hl fun _ => rfl) (fun _ _ => .nil) rfl (by decide) (by decide) (pk1 (.l rfl)) rfl rfl rfl (fun L => ?_) rfl
  tm_at "lit"
  tm_at "go"
  all_goals (refine congrArg (fun i => Out.ret (PV.int i)) ?_; simp only [Bool.and_eq_true, decide_eq_true_eq, Bool.and_eq_false_iff, decide_eq_false_iff_not] at *; unfold hexWorth; (repeat' split) <;> omega)

noncomputable def isPlain (c : Nat) : Bool := c == 32 || c == 9 || (decide (33 ≤ c) && decide (c ≤ 126) && c != 61)
theorem is_plain_ok (S : Su C) (c : Nat) : CallR C (n + 1) (.ref 139) [.int c] (.bool (isPlain c)) := by
  refine CallR.fn (params := ["code"]) (dp := []) (dv := []) S.ok (S.K 139 _ rfl) rfl (codeRec_of S.K rfl) rfl rfl (fun s vs hl _ => bind1 hl fun _ => rfl) (fun _ _ => .nil) rfl (by decide) (by decide) (pk1 (.l rfl)) rfl rfl rfl (fun L => ?_) rfl
  tm_at "lit"
  tm_at "go"
  refine congrArg (fun i => Out.ret (PV.bool i)) ?_
  unfold isPlain
  rw [Bool.eq_iff_iff]
  simp
  omega
set_option hygiene false in
local macro_rules | `(tactic| tm_at "calls") => `(tactic| with_reducible first | exact hex_worth_ok S _ | exact is_plain_ok S _)

noncomputable def quotedCode (c : Nat) : List UInt8 := [61, hexes.getD (c / 16) 0, hexes.getD (c % 16) 0]
theorem fdivN (a b : Nat) : Int.fdiv (a : Int) (b : Int) = ((a / b : Nat) : Int) := by
  rw [Int.fdiv_eq_ediv_of_nonneg _ (Int.natCast_nonneg _)]; rfl
theorem fmodN (a b : Nat) : Int.fmod (a : Int) (b : Int) = ((a % b : Nat) : Int) := by
  rw [Int.fmod_eq_emod_of_nonneg _ (Int.natCast_nonneg _)]; rfl
theorem quoted_code_ok (S : Su C) (c : Nat) (hc : c < 256) : CallR C (n + 1) (.ref 118) [.int c] (.bytes (quotedCode c)) := by
  refine CallR.fn (params := ["code"]) (dp := []) (dv := []) S.ok (S.K 118 _ rfl) rfl (codeRec_of S.K rfl) rfl rfl (fun s vs hl _ => bind1 hl fun _ => rfl) (fun _ _ => .nil) rfl (by decide) (by decide) (pk1 (.l rfl)) rfl rfl rfl (fun L => ?_) rfl
  tm_at "lit"
  refine xs_ret (p := .bytes (quotedCode c)) ?_ rfl rfl
  have e1 : Int.fdiv (c : Int) 16 = ((c / 16 : Nat) : Int) := fdivN c 16
  have e2 : Int.fmod (c : Int) 16 = ((c % 16 : Nat) : Int) := fmodN c 16
  have hh : hexes.length = 16 := rfl
  tm_at "go"
  all_goals (try tm_at "side")
  refine c_bytes (l := quotedCode c) (congrArg some ?_) (Nat.le_of_ble_eq_true rfl)
  rw [e1, e2]
  rfl

noncomputable def quotedAt (l : List UInt8) (at' : Nat) : Int := if l.length ≤ at' + 2 then -1 else
  if 0 ≤ hexWorth (l.getD (at' + 1) 0).toNat ∧ 0 ≤ hexWorth (l.getD (at' + 2) 0).toNat then 16 * hexWorth (l.getD (at' + 1) 0).toNat + hexWorth (l.getD (at' + 2) 0).toNat else -1
theorem quoted_at_ok (S : Su C) (l : List UInt8) (a : Nat) (hz : l.length ≤ 16777216) : CallR C (n + 2) (.ref 132) [.bytes l, .int a] (.int (quotedAt l a)) := by
  refine CallR.fn (params := ["data", "at"]) (dp := []) (dv := []) S.ok (S.K 132 _ rfl) rfl (codeRec_of S.K rfl) rfl rfl (fun s vs hl _ => bind2 hl fun _ _ => rfl) (fun _ _ => .nil) rfl (by decide) (by decide) (pk2 (.l rfl) (.l rfl)) rfl rfl rfl (fun L => ?_) rfl
  tm_at "lit"
  tm_at "go"
  all_goals (try tm_at "side")
  · rename_i h
    refine congrArg (fun i => Out.ret (PV.int i)) ?_
    unfold quotedAt
    rw [if_pos (by simp only [decide_eq_true_eq] at h; omega)]
  · rename_i h
    refine congrArg (fun i => Out.ret (PV.int i)) ?_
    unfold quotedAt
    rw [if_neg (by simp only [decide_eq_false_iff_not] at h; omega)]
    have e1 : ((a : Int) + 1).toNat = a + 1 := by omega
    have e2 : ((a : Int) + 2).toNat = a + 2 := by omega
    rw [e1, e2]
    by_cases q : 0 ≤ hexWorth (l.getD (a + 1) 0).toNat ∧ 0 ≤ hexWorth (l.getD (a + 2) 0).toNat
    · rw [if_pos q, decide_eq_true q.1, decide_eq_true q.2]; rfl
    · rw [if_neg q]
      by_cases q1 : 0 ≤ hexWorth (l.getD (a + 1) 0).toNat
      · have q2 : ¬ 0 ≤ hexWorth (l.getD (a + 2) 0).toNat := fun h => q ⟨q1, h⟩
        rw [decide_eq_false q2, Bool.false_and, Bool.and_false, cond_false]
      · rw [decide_eq_false q1, Bool.false_and, cond_false]
end
section
variable {C : Cx} {n : Nat} {env : Env} {σ : Loc} {Φ : Out → Prop} {Pout W : List Addr} {s s₁ s₂ : Shared}

/-- an expression that may change the frame's own objects -/
noncomputable def EvX (C : Cx) (n : Nat) (env : Env) (σ : Loc) (e : Expr) (p : PV) (σ' : Loc) : Prop :=
  ∀ A Pout W s, Rm n A → StR C env Pout W σ s → wpAny C.M A (eval e env) (fun v s' => Rep C (Pout ++ W) s'.heap v p ∧ StR C env Pout W σ' s' ∧ Chg W s s') noE s
theorem Rep.chg {v : Value} {p : PV} (r : Rep C (Pout ++ W) s.heap v p) (c : Chg W s s₁) : Rep C (Pout ++ W) s₁.heap v p := r.move fun b o hb e => ⟨hb, chgHeap c b o (fun q => hb (List.mem_append_right _ q)) e⟩
theorem chgTrans' (c : Chg W s s₁) (c' : Chg W s₁ s₂) : Chg W s s₂ := chgTrans c (fun a ha => .inl ha) c'
theorem EvX.of {e : Expr} {p : PV} (h : EvE C n env σ e p) (ho : p.isOwn = false) : EvX C n env σ e p σ := by
  intro A Pout W s hA S
  exact wpAny_mono (h A Pout W s hA S) (fun v s' k => ⟨k.1.rep ho, S.quiet k.2, keepsChg k.2⟩) fun _ _ x => x
theorem EvX.binop {l r : Expr} {op : Operator} {pos : Pos} {a b c : PV} {σ₁ σ₂ : Loc} (hl : EvX C n env σ l a σ₁) (hr : EvX C n env σ₁ r b σ₂) (ho : Op2 C n (binaryOp op) a b c) (hc : c.isOwn = false) : EvX C n env σ (.BinOp l op r pos) c σ₂ := by
  intro A Pout W s hA S
  refine wpAny_BinOp ?_
  refine wpAny_mono (hl A Pout W s hA S) (fun v s₁ h₁ => ?_) fun _ _ x => x
  obtain ⟨r₁, S₁, c₁⟩ := h₁
  refine wpAny_mono (hr A Pout W s₁ hA S₁) (fun u s₂ h₂ => ?_) fun _ _ x => x
  obtain ⟨r₂, S₂, c₂⟩ := h₂
  exact wpAny_mono (ho A _ s₂ v u hA S₂.keep S₂.priv (.inl (r₁.chg c₂)) (.inl r₂)) (fun x s₃ h₃ => ⟨h₃.1.rep hc, S₂.quiet h₃.2, chgTrans' (chgTrans' c₁ c₂) (keepsChg h₃.2)⟩) fun _ _ x => x
theorem EvX.cmp {l r : Expr} {op : CmpOp} {pos : Pos} {a b c : PV} {σ₁ σ₂ : Loc} (hl : EvX C n env σ l a σ₁) (hr : EvX C n env σ₁ r b σ₂) (ho : Op2 C n (compareOp op) a b c) (hc : c.isOwn = false) (hm : behindInMarks op r = false) : EvX C n env σ (.Compare l [op] [r] pos) c σ₂ := by
  intro A Pout W s hA S
  refine wpAny_Compare1 ?_ hm
  refine wpAny_mono (hl A Pout W s hA S) (fun v s₁ h₁ => ?_) fun _ _ x => x
  obtain ⟨r₁, S₁, c₁⟩ := h₁
  refine wpAny_mono (hr A Pout W s₁ hA S₁) (fun u s₂ h₂ => ?_) fun _ _ x => x
  obtain ⟨r₂, S₂, c₂⟩ := h₂
  exact wpAny_mono (ho A _ s₂ v u hA S₂.keep S₂.priv (.inl (r₁.chg c₂)) (.inl r₂)) (fun x s₃ h₃ => ⟨h₃.1.rep hc, S₂.quiet h₃.2, chgTrans' (chgTrans' c₁ c₂) (keepsChg h₃.2)⟩) fun _ _ x => x
theorem EvX.sub {x i : Expr} {pos : Pos} {a b c : PV} {σ₁ σ₂ : Loc} (hx : EvX C n env σ x a σ₁) (hi : EvX C n env σ₁ i b σ₂) (hI : Items C a) (ho : Op2 C n getItem a b c) (hc : c.isOwn = false) (hs : ∀ o u, ∃ ops, subscripted i false o u = operate ops (getItem o u)) :
    EvX C n env σ (.Subscript x i pos) c σ₂ := by
  intro A Pout W s hA S
  refine Subscript_ ?_
  refine wpAny_mono (hx A Pout W s hA S) (fun v s₁ h₁ => ?_) fun _ _ x => x
  obtain ⟨r₁, S₁, c₁⟩ := h₁
  refine wpAny_mono (hi A Pout W s₁ hA S₁) (fun u s₂ h₂ => ?_) fun _ _ x => x
  obtain ⟨r₂, S₂, c₂⟩ := h₂
  obtain ⟨T, id, hl, hT⟩ := hI
  obtain ⟨ops, e⟩ := hs v u
  have r := RepT.of_rep (r₁.chg c₂)
  exact tail_any (hT _ s₂ v r) hl (wpAny_mono (ho A _ s₂ v u hA S₂.keep S₂.priv r (.inl r₂)) (fun x s₃ h₃ => ⟨h₃.1.rep hc, S₂.quiet h₃.2, chgTrans' (chgTrans' c₁ c₂) (keepsChg h₃.2)⟩) fun _ _ x => x) e
theorem EvX.call1 {x : Str} {np pos : Pos} {fv : Value} {e : Expr} {p c : PV} {σ₁ : Loc} (hf : EvE C n env σ (.Name x np) (.val fv)) (K : KeepOf C fv) (he : EvX C n env σ e p σ₁) (hc : CallR C n fv [p] c) (ho : c.isOwn = false)
    (hse : ∀ rest, starEach (e :: rest) env = (false, eval e env) :: starEach rest env) : EvX C n env σ (.Call (.Name x np) [e] [] pos) c σ₁ := by
  intro A Pout W s hA S
  refine Call_ ?_
  refine wpAny_mono (hf A Pout W s hA S) (fun v s₁ h₁ => ?_) fun _ _ x => x
  have S₁ := S.quiet h₁.2
  rw [h₁.1.val_inv]
  rw [hse]
  refine callWith_of (P := KeepH C.g) rfl K ?_
  refine evalArgs_plain (spliced_cons (wpAny_mono (he A Pout W s₁ hA S₁) (fun u s₂ h₂ => spliced_nil ?_) fun _ _ x => x))
  obtain ⟨r₂, S₂, c₂⟩ := h₂
  refine ⟨S₂.keep, ?_⟩
  exact wpAny_mono (hc A _ s₂ _ hA S₂.keep S₂.priv (.cons (.inl r₂) .nil)) (fun v s₃ h₃ => ⟨h₃.1.rep ho, S₂.quiet h₃.2, chgTrans' (keepsChg h₁.2) (chgTrans' c₂ (keepsChg h₃.2))⟩) fun _ _ x => x
theorem Ex1.assignX {x : Str} {np pos : Pos} {e : Expr} {p : PV} {σ₁ : Loc} (he : EvX C n env σ e p σ₁) (hx : Stored env x) (h : Φ (.next ((x, p) :: σ₁)))
    (hs : swapsWith e (some (.Name x np)) pos.line env = pure false) : Ex1 C n env σ (.Assign [.Name x np] e pos) Φ := by
  intro A Pout W s hA S
  refine wpAny_Assign_Name (wpAny_mono (he A Pout W s hA S) (fun v s₁ k => ?_) fun _ _ x => x) hs
  obtain ⟨r, S₁, c₁⟩ := k
  exact S₁.store r hx.1 hx.2 fun s₂ S₂ c => Done.after c₁ (fun a ha => .inl ha) ⟨⟨_, h, rfl, W, fun a ha => .inl ha, S₂⟩, c⟩

/-- x = [a, b] -/
theorem Ex1.newOwnL {x : Str} {np lp pos : Pos} {es : List Expr} {ps : List PV} (H : EvAll C n env σ es ps) (hp : ps.all (fun p => !p.isOwn) = true) (hz : ps.length ≤ 1000) (hk : env.scope.kind = .function) (hx : env.kindOf x = some .local)
    (hsw : swapsWith (.List es lp) (some (.Name x np)) pos.line env = pure false) (h : Φ (.next ((x, .own ps) :: σ))) : Ex1 C n env σ (.Assign [.Name x np] (.List es lp) pos) Φ := by
  intro A Pout W s hA S
  refine wpAny_Assign_Name (List_ (wpAny_mono (H.run hA S) (fun vs s₀ h₀ => ?_) fun _ _ x => x)) hsw
  have S₀ := S.quiet h₀.2
  have r := EvAll.pures h₀.1 hp
  have hlen := r.length
  refine wpAny_newObj_type ?_ (by show vs.toArray.size ≤ sizeLine; rw [List.size_toArray, sizeLine_eq]; omega)
  have K : Keeps s₀ { s₀ with heap := s₀.heap.push { cls := .type "list", data := .seq vs.toArray } } := ⟨_, _, rfl, KeepH.push _ _⟩
  have fresh : s₀.heap.get? s₀.heap.objs.size = none := Heap.get?_none_of_le (Nat.le_refl _)
  have hPn : s₀.heap.objs.size ∉ Pout ++ W := S₀.priv.fresh
  have S₁ : StR C env Pout (s₀.heap.objs.size :: W) σ { s₀ with heap := s₀.heap.push { cls := .type "list", data := .seq vs.toArray } } := S₀.grow K (fun _ h => h) (fun _ h => .tail _ h) (fun a ha => by
      rcases List.mem_append.mp ha with q | q
      · exact .inl (List.mem_append_left _ q)
      · rcases List.mem_cons.mp q with rfl | q
        · exact .inr ⟨fresh, _, Heap.get?_push_size _ rfl⟩
        · exact .inl (List.mem_append_right _ q)) (fun a ha => by
      rcases List.mem_cons.mp ha with rfl | q
      · exact fun hm => hPn (List.mem_append_left _ hm)
      · exact S₀.disj a q)
  have old : ∀ b o, b ∉ Pout ++ W → s₀.heap.get? b = some o → b ∉ Pout ++ (s₀.heap.objs.size :: W) ∧ (s₀.heap.push { cls := .type "list", data := .seq vs.toArray }).get? b = some o := fun b o hb e => ⟨fun hm => by
    rcases List.mem_append.mp hm with q | q
    · exact hb (List.mem_append_left _ q)
    · rcases List.mem_cons.mp q with rfl | q
      · rw [fresh] at e; cases e
      · exact hb (List.mem_append_right _ q), keepsHeap K b o e⟩
  have news : s.heap.get? s₀.heap.objs.size = none := by
    cases q : s.heap.get? s₀.heap.objs.size with
    | none => rfl
    | some o => rw [keepsHeap h₀.2 _ _ q] at fresh; cases fresh
  obtain ⟨ad, hv, hd⟩ := S₀.vars
  refine S₁.storeOwn (ad := ad) (a := s₀.heap.objs.size) (vs := vs) (fun y p e => (hv y p e).grow (keepsHeap K) (fun _ h => .tail _ h) old) hd (.head _) (fun y l e q => ?_) ⟨0, Heap.get?_push_size _ rfl⟩ (r.move old) hk hx fun s' S' c => ?_
  · obtain ⟨_, _, vs, ⟨k, e'⟩, _⟩ := hv y _ e
    rw [q, fresh] at e'; cases e'
  · exact Done.after (keepsChg (keepsTrans h₀.2 K)) (fun a ha => by
      rcases List.mem_cons.mp ha with rfl | q
      · exact .inr news
      · exact .inl q) ⟨⟨_, h, rfl, _, fun a ha => .inl ha, S'⟩, c⟩

theorem EvE.orL {x y : Expr} {pos : Pos} {p q : PV} {b : Bool} (hx : EvE C n env σ x p) (ht : Tr C n p b) (hy : b = false → EvE C n env σ y q) : EvE C n env σ (.BoolOp .Or [x, y] pos) (if b then p else q) := by
  intro A Pout W s hA S
  refine BoolOp_or (wpAny_mono (hx A Pout W s hA S) (fun v s₁ h₁ => ?_) fun _ _ x => x)
  have S₁ := S.quiet h₁.2
  refine wpAny_mono (ht A _ s₁ v hA S₁.keep S₁.priv h₁.1) (fun c s₂ h₂ => ?_) fun _ _ x => x
  obtain ⟨rfl, K₂⟩ := h₂
  cases c with
  | true => exact ⟨h₁.1.keep (keepsHeap K₂), keepsTrans h₁.2 K₂⟩
  | false =>
    refine BoolOp_one (wpAny_mono (hy rfl A Pout W s₂ hA (S₁.quiet K₂)) (fun v s₃ h₃ => ⟨h₃.1, keepsTrans h₁.2 (keepsTrans K₂ h₃.2)⟩) fun _ _ x => x)

theorem c_list {l : List PV} (hz : l.length ≤ 16777216) : CallR C n (.type "list") [.lst l] (.lst l) := by
  intro A P s vs _ hg hP r
  obtain ⟨v, rfl, q⟩ := r.one
  cases q.rep rfl with
  | @lst a ws _ ha hl hr =>
    obtain ⟨k, e⟩ := hl
    refine call_list_seq a (.inl rfl) e rfl rfl (fun h' c' hk hn => ⟨.inl (.lst hP.fresh ⟨c', hn⟩ (hr.keep hk)), _, s.toks, rfl, hk⟩) (by rw [sizeLine_eq, List.size_toArray, hr.length]; exact hz)
end
section
variable {C : Cx} {n : Nat} {env : Env} {σ : Loc} {Φ : Out → Prop} {Pout W : List Addr} {s s₁ s₂ : Shared}
/-- a for's walk behind its iterable -/
theorem forTail {target : Expr} {body : List Stmt} {a : PV} {xs : List PV} {v : Value} {A : Around} (J : Nat → Loc → Prop) (ext : PV → Loc) (hit : IterR C n a xs) (hasg : ∀ x ∈ xs, AsgR C n env target x (ext x)) (h0 : J 0 σ)
    (turn : ∀ i x τ, xs[i]? = some x → J i τ → ExS C n env (ext x ++ τ) body (turnS (J (i + 1)) Φ)) (done : ∀ τ, J xs.length τ → Φ (.next τ))
    (hA : Rm n A) (S : StR C env Pout W σ s) (hr : RepT C (Pout ++ W) s.heap v a) :
    wpAny C.M A (pyIter v) (fun it s₂ => codeAny C.M A (.forLoop target it body [] env) (fun r s' => ∃ fl, r = .ok fl ∧ Done C env Pout W s Φ fl s') s₂) noE s := by
  refine hit A _ s v _ hA S.priv hr fun I s₁ fp Pv St K₁ hI hSt Wk st0 hfp hP hgo => ?_
  -- the iterator is private from here on
  have hIP : I ∉ Pout ++ W := fun hm => by obtain ⟨⟨o, e⟩, _⟩ := S.priv _ hm; rw [hI] at e; cases e
  have S₁ : StR C env (I :: Pout) W σ s₁ := S.grow K₁ (fun _ h => .tail _ h) (fun _ h => h) (fun a ha => by
      rcases List.mem_cons.mp ha with rfl | q
      · exact .inr ⟨hI, (hSt 0 _ st0).1⟩
      · exact .inl q) (fun a ha hm => by
      rcases List.mem_cons.mp hm with rfl | q
      · exact hIP (List.mem_append_right _ ha)
      · exact S.disj a ha q)
  have K01 := keepsTrans (keepsRefl s) K₁
  have hIs : s.heap.get? I = none := by
    cases q : s.heap.get? I with
    | none => rfl
    | some o => rw [keepsHeap (keepsRefl s) _ _ q] at hI; cases hI
  -- an end of the loop is an end of the statement
  have outS : ∀ {s₂ : Shared} {W₂ : List Addr} {τ₂ : Loc}, StR C env (I :: Pout) W₂ τ₂ s₂ → StR C env Pout W₂ τ₂ s₂ := fun {s₂ W₂ τ₂} S₂ => by
    obtain ⟨ad, hv, hd⟩ := S₂.vars
    have up : ∀ b o, b ∉ (I :: Pout) ++ W₂ → s₂.heap.get? b = some o → b ∉ Pout ++ W₂ ∧ s₂.heap.get? b = some o := fun b o hb e => ⟨fun hm => hb (List.mem_cons_of_mem _ hm), e⟩
    exact { S₂ with
      there := fun a ha => S₂.there a (List.mem_cons_of_mem _ ha)
      new := fun a ha => S₂.new a (List.mem_cons_of_mem _ ha)
      disj := fun a ha hm => S₂.disj a ha (.tail _ hm)
      cellP := fun m c e => by
        rcases List.mem_cons.mp (S₂.cellP m c e) with q | q
        · subst q
          exact absurd (S.cellP m c e) hIP
        · exact q
      vars := ⟨ad, fun x p e => (hv x p e).grow (KeepH.refl _) (fun _ h => h) up, hd⟩ }
  have chgOut : ∀ {s₂ : Shared}, Chg (I :: W) s₁ s₂ → Chg W s s₂ := fun c => by
    have c2 := chgTrans (keepsChg (W := W) K01) (W₁ := I :: W) (fun a ha => by
      rcases List.mem_cons.mp ha with rfl | q
      · exact .inr hIs
      · exact .inl q) c
    exact c2
  have newOut : ∀ {W₂ : List Addr}, (∀ a ∈ W₂, a ∈ W ∨ s₁.heap.get? a = none) → ∀ a ∈ W₂, a ∈ W ∨ s.heap.get? a = none := fun g a ha => by
    rcases g a ha with q | q
    · exact .inl q
    · right
      cases q' : s.heap.get? a with
      | none => rfl
      | some o => rw [keepsHeap K01 _ _ q'] at q; cases q
  refine codeAny_forLoop_any (fun k s' => ∃ i τ W', k = xs.length + 1 - i ∧ i ≤ xs.length ∧ J i τ ∧ St i s'.heap ∧ StR C env (I :: Pout) W' τ s' ∧ (∀ a ∈ W', a ∈ W ∨ s₁.heap.get? a = none) ∧ Chg (I :: W) s₁ s') ?_ (xs.length + 1)
    ⟨0, σ, W, rfl, Nat.zero_le _, h0, st0, S₁, fun a ha => .inl ha, chgRefl s₁⟩
  rintro k s' ⟨i, τ, W', rfl, hi, hJ, hst, S', g, c⟩
  by_cases hlt : i < xs.length
  · refine anyE (Wk.item i _ _ _ hlt hst fun v h₁ tk₁ hPv hst₁ hk₁ => ?_)
    obtain ⟨x, hx, rx⟩ := hP i v hPv
    have c₁ : Chg [I] s' { s' with heap := h₁, toks := tk₁ } := ⟨h₁, tk₁, rfl, hk₁⟩
    have S₂ : StR C env (I :: Pout) W' τ { s' with heap := h₁, toks := tk₁ } := S'.outer (.head _) (hSt i _ hst).2.1 (hSt i _ hst).2.2 c₁ (hSt _ _ hst₁).1
    have c₂ : Chg (I :: W) s₁ { s' with heap := h₁, toks := tk₁ } := chgTrans c (W₁ := [I]) (fun a ha => .inl (by rw [List.mem_singleton.mp ha]; exact .head _)) c₁
    have now : ∀ b o, b ∉ Pout ++ W → s.heap.get? b = some o → b ∉ (I :: Pout) ++ W' ∧ h₁.get? b = some o := fun b o hb e => by
      have hbI : b ≠ I := fun q => by subst q; rw [hI] at e; cases e
      have e₁ := keepsHeap K₁ b o e
      refine ⟨fun hm => ?_, ?_⟩
      · rcases List.mem_cons.mp hm with q | q
        · exact hbI q
        · rcases List.mem_append.mp q with q | q
          · exact hb (List.mem_append_left _ q)
          · rcases g b q with q | q
            · exact hb (List.mem_append_right _ q)
            · rw [q] at e₁; cases e₁
      · refine chgHeap c₂ b o (fun hm => ?_) e₁
        rcases List.mem_cons.mp hm with q | q
        · exact hbI q
        · exact hb (List.mem_append_right _ q)
    have rnow : Rep C ((I :: Pout) ++ W') h₁ v x := rx.move now
    refine anyE (hgo i v target _ _ hPv hst₁ ?_)
    refine anyE (hasg x (List.mem_of_getElem? hx) τ A (I :: Pout) W' _ v _ hA S₂ rnow fun s₃ S₃ c₃ => ?_)
    refine anyE (wpAny_mono (turn i x τ hx hJ A (I :: Pout) W' s₃ hA S₃) (fun fl s₄ d => ?_) fun _ _ x => x)
    obtain ⟨⟨out, ho, l⟩, c₄⟩ := d
    have gW : ∀ a ∈ W', a ∈ I :: W ∨ s₁.heap.get? a = none := fun a ha => (g a ha).imp (fun q => .tail _ q) id
    have c₅ : Chg (I :: W) s₁ s₄ := chgTrans (chgTrans c₂ gW c₃) gW c₄
    have c₃₄ := chgTrans c₃ (fun a ha => .inl ha) c₄
    have grow2 : ∀ {W₂ : List Addr}, (∀ a ∈ W₂, a ∈ W' ∨ s₃.heap.get? a = none) → ∀ a ∈ W₂, a ∈ W ∨ s₁.heap.get? a = none := fun g' a ha => by
      have q := growTrans gW (chgTrans c₂ gW c₃) g' a ha
      rcases q with q | q
      · rcases List.mem_cons.mp q with q | q
        · subst q
          rcases g' a ha with r | r
          · exact g a r
          · have c' := chgTrans c₂ gW c₃
            exact absurd (S₃.there a (.head _)) (fun ⟨o, e⟩ => by rw [r] at e; cases e)
        · exact .inl q
      · exact .inr q
    have stAt : St (i + 1) s₄.heap := Wk.frame _ _ _ hst₁ fun b hb o e => by
      refine chgHeap c₃₄ b o (fun hm => ?_) e
      rcases hfp b hb with q | ⟨q, o', e'⟩
      · subst q
        exact S'.disj b hm (.head _)
      · exact (now b o' q e').1 (List.mem_append_right _ hm)
    cases out with
    | next τ₂ =>
      obtain ⟨rfl, W₂, g₂, S₄⟩ := l
      exact ⟨xs.length + 1 - (i + 1), by omega, i + 1, τ₂, W₂, rfl, hlt, ho, stAt, S₄, grow2 g₂, c₅⟩
    | cont τ₂ =>
      obtain ⟨rfl, W₂, g₂, S₄⟩ := l
      exact ⟨xs.length + 1 - (i + 1), by omega, i + 1, τ₂, W₂, rfl, hlt, ho, stAt, S₄, grow2 g₂, c₅⟩
    | brk τ₂ =>
      obtain ⟨rfl, W₂, g₂, S₄⟩ := l
      exact ⟨.next, rfl, ⟨_, ho, rfl, W₂, newOut (grow2 g₂), outS S₄⟩, chgOut c₅⟩
    | ret p =>
      obtain ⟨v, rfl, r⟩ := l
      exact ⟨.ret v, rfl, ⟨_, ho, v, rfl, r.move fun b o hb e => ⟨fun hm => hb (.tail _ hm), e⟩⟩, chgOut c₅⟩
  · have hin : i = xs.length := by omega
    subst hin
    refine anyE (Wk.done _ _ _ hst fun h₁ tk₁ hk₁ => wpAny_execs_nil ?_)
    have c₁ : Chg [I] s' { s' with heap := h₁, toks := tk₁ } := ⟨h₁, tk₁, rfl, hk₁⟩
    have hIP' : I ∉ Pout ++ W' := fun hm => by
      rcases List.mem_append.mp hm with q | q
      · exact hIP (List.mem_append_left _ q)
      · exact S'.disj I q (.head _)
    have S₂ : StR C env Pout W' τ { s' with heap := h₁, toks := tk₁ } := S'.drop (fun m c e q => hIP (q ▸ S.cellP m c e)) (hSt _ _ hst).2.1 (hSt _ _ hst).2.2 c₁ hIP'
    have c₂ : Chg (I :: W) s₁ { s' with heap := h₁, toks := tk₁ } := chgTrans c (W₁ := [I]) (fun a ha => .inl (by rw [List.mem_singleton.mp ha]; exact .head _)) c₁
    exact ⟨.next, rfl, ⟨_, done τ hJ, rfl, W', newOut g, S₂⟩, chgOut c₂⟩


theorem xs_forX {rest : List Stmt} {target iter : Expr} {body : List Stmt} {pos : Pos} {a : PV} {xs : List PV} {σ₁ : Loc} (J : Nat → Loc → Prop) (ext : PV → Loc) (he : EvX C n env σ iter a σ₁) (hs : ∀ x, foldedSetIterable iter env x = pure x) (hit : IterR C n a xs) (hasg : ∀ x ∈ xs, AsgR C n env target x (ext x)) (h0 : J 0 σ₁)
    (turn : ∀ i x τ, xs[i]? = some x → J i τ → ExS C n env (ext x ++ τ) body (turnS (J (i + 1)) (thenS C n env rest Φ))) (done : ∀ τ, J xs.length τ → ExS C n env τ rest Φ) : ExS C n env σ (.For target iter body [] pos :: rest) Φ := by
  refine .cons ?_
  intro A Pout W s hA S
  refine wpAny_For (wpAny_mono (he A Pout W s hA S) (fun v s₀ h₀ => ?_) fun _ _ x => x) hs
  obtain ⟨r₀, S₀, c₀⟩ := h₀
  refine wpAny_mono (forTail J ext hit hasg h0 turn done hA S₀ (.inl r₀)) (fun it s₂ k => codeAny_mono k fun r s' hr => ?_) fun _ _ x => x
  obtain ⟨fl, rfl, d⟩ := hr
  exact d.after c₀ fun a ha => .inl ha
end
section
variable {C : Cx} {n : Nat} {env : Env} {σ : Loc} {Φ : Out → Prop} {Pout W : List Addr} {s s₁ s₂ : Shared}
/-- a call of a function, its body walked by hand -/
theorem call_fnX {fa : Addr} {o : Obj} {fd : FuncData} {body : List Stmt} {args dp : List PV} {dv : List Value} {params : List Str} {A : Around} {P : List Addr} {s : Shared} {vs : List Value} {Q : Value → Shared → Prop}
    (K : C.Ok) (ho : C.g.get? fa = some o) (hd : o.data = .func fd) (hcd : C.g.CodeRec fd.code fd.qualname) (hb : fd.body = .stmts body) (hcl : fd.closure = [])
    (hbind : ∀ s vs, vs.length = args.length → KeepH C.g s.heap → BindsTo s fd ⟨vs, []⟩ (params.zip (vs ++ dv))) (hdv : ∀ P h, RepAll C P h dv dp) (hargs : args.all (fun p => !p.isOwn) = true) (hnd : params.Nodup)
    (hcn : ((cellsFrom 0 fd.scope.names []).map (·.1)).Nodup) (hpk : ∀ x ∈ params, fd.scope.names.lookup x = some .local ∨ (fd.scope.names.lookup x = some .cell ∧ ∀ L, ((cellsFrom L fd.scope.names []).lookup x).isSome = true))
    (hco : fd.scope.isCoroutine = false) (hgen : fd.scope.isGenerator = false) (hk : fd.scope.kind = .function)
    (hA : Rm (n + 1) A) (hg : KeepH C.g s.heap) (hP : PrivOk C P s.heap) (hr : RepTs C P s.heap vs args)
    (hbody : ∀ L W A' s', Rm n A' → StR C (fenv fd L fa) P W (params.zip (args ++ dp)) s' → (∀ a ∈ W, s.heap.get? a = none) → Keeps s s' →
      wpAny C.M A' (execs body (fenv fd L fa)) (fun fl s'' => ∃ v, fl = .ret v ∧ Q v s'') noE s') : wpAny C.M A (call (.ref fa) vs) Q noE s := by
  refine wpAny_call (codeAny_call_function (by have := hA.2.1; omega) (hg _ _ ho) hd hco hgen hb (hcd.keeps hg) (hbind s vs hr.length hg _ _ _ _ ?_))
  rw [hcl]
  have hzip : ((params.zip (vs ++ dv)).map (·.1)).Nodup := map_zip_sub.nodup hnd
  refine wpAny_newFunctionEnv_cells hk (fun x hx => ?_) fun env he s' x => ?_
  · have := hpk x.1 (List.of_mem_zip hx).1
    exact this.imp id fun q => ⟨q.1, q.2 _⟩
  · subst he
    have kk := x.toInCall.keep
    refine ⟨(K.nolimit.keeps hg).keeps kk, codeAny_func ?_⟩
    obtain ⟨h₁, tk, e, hk₁⟩ := x.done
    have rargs := EvAll.pures hr hargs
    have rall : RepAll C P s'.heap (vs ++ dv) (args ++ dp) := (rargs.keep kk).append (hdv _ _)
    -- the frame's own addresses
    have fresh : ∀ a, s.heap.objs.size ≤ a → s.heap.get? a = none := fun a h => Heap.get?_none_of_le h
    have gnone : ∀ a, s.heap.get? a = none → C.g.get? a = none := fun a e => by
      cases q : C.g.get? a with
      | none => rfl
      | some o => rw [hg _ _ q] at e; cases e
    have Wge : ∀ a ∈ s.heap.objs.size :: (cellsFrom (s.heap.objs.size + 1) fd.scope.names []).map (·.2), s.heap.objs.size ≤ a := fun a ha => by
      rcases List.mem_cons.mp ha with rfl | q
      · exact Nat.le_refl _
      · obtain ⟨y, hy, rfl⟩ := List.mem_map.mp q
        exact Nat.le_of_lt (x.above y.1 y.2 hy)
    have cellAt : ∀ m c, (cellsFrom (s.heap.objs.size + 1) fd.scope.names []).lookup m = some c → s'.heap.IsCell c (bindC (fenv fd s.heap.objs.size fa).kindOf (params.zip (vs ++ dv)) (fun _ => none) m) := fun m c e => x.cell m c e
    have cellIn : ∀ m c, (m, c) ∈ cellsFrom (s.heap.objs.size + 1) fd.scope.names [] → ∃ v, s'.heap.IsCell c v := fun m c hm => by
      exact ⟨_, cellAt m c (lookup_of_mem_nodup (cellsFrom_names fd.scope.names 0 (s.heap.objs.size + 1) [] [] rfl ▸ hcn) hm)⟩
    have S : StR C (fenv fd s.heap.objs.size fa) P (s.heap.objs.size :: (cellsFrom (s.heap.objs.size + 1) fd.scope.names []).map (·.2)) (params.zip (args ++ dp)) s' := by
      refine ⟨hg.trans kk, fun a ha => ?_, fun a ha => ?_, fun a ha hm => ?_, List.mem_cons_self, fun m c e => ?_, fun _ m c e => ?_, fun m m' c e e' => ?_, ⟨_, x.toInCall.ns⟩, fun _ => 0, fun y p e => ?_, fun y z l l' e => ?_⟩
      · rcases List.mem_append.mp ha with q | q
        · obtain ⟨⟨o, e⟩, _⟩ := hP a q
          exact ⟨o, kk _ _ e⟩
        · rcases List.mem_cons.mp q with rfl | q
          · obtain ⟨o, _, _, e, _⟩ := x.toInCall.ns
            exact ⟨o, e⟩
          · obtain ⟨y, hy, rfl⟩ := List.mem_map.mp q
            obtain ⟨v, o, e, _⟩ := cellIn y.1 y.2 hy
            exact ⟨o, e⟩
      · rcases List.mem_append.mp ha with q | q
        · exact (hP a q).2
        · exact gnone a (fresh a (Wge a q))
      · obtain ⟨⟨o, e⟩, _⟩ := hP a hm
        rw [fresh a (Wge a ha)] at e; cases e
      · exact List.mem_append_right _ (.tail _ (List.mem_map.mpr ⟨(m, c), mem_of_lookup e, rfl⟩))
      · exact ⟨.tail _ (List.mem_map.mpr ⟨(m, c), mem_of_lookup e, rfl⟩), _, cellAt m c e⟩
      · exact name_of_addr x.apart (mem_of_lookup e) (mem_of_lookup e')
      · obtain ⟨i, hi, hp⟩ := lookup_zip e
        obtain ⟨v, hv, hr'⟩ := rall.get hp
        have hm : (y, v) ∈ params.zip (vs ++ dv) := by
          have : (params.zip (vs ++ dv))[i]? = some (y, v) := by rw [List.getElem?_zip_eq_some]; exact ⟨hi, hv⟩
          exact List.mem_of_getElem? this
        have hno : p.isOwn = false := by cases hr' <;> rfl
        have vi : VarIs (fenv fd s.heap.objs.size fa) s'.heap y v := by
          rcases hpk y (List.mem_of_getElem? hi) with q | ⟨q, q'⟩
          · exact .inl ⟨q, _, x.toInCall.ns, bindL_get (k := (fenv fd s.heap.objs.size fa).kindOf) q hzip hm⟩
          · obtain ⟨c, hc⟩ := Option.isSome_iff_exists.mp (q' (s.heap.objs.size + 1))
            refine .inr ⟨q, c, hc, ?_⟩
            have := cellAt y c hc
            rw [bindC_get (k := (fenv fd s.heap.objs.size fa).kindOf) q hzip hm] at this
            exact this
        have hr'' : Rep C (P ++ (s.heap.objs.size :: (cellsFrom (s.heap.objs.size + 1) fd.scope.names []).map (·.2))) s'.heap v p := by
          have r0 : Rep C P s.heap v p ∨ ∀ P' h', Rep C P' h' v p := by
            by_cases hl : i < vs.length
            · left
              rw [List.getElem?_append_left hl] at hv
              rw [List.getElem?_append_left (by rw [← hr.length]; exact hl)] at hp
              obtain ⟨v', e1, e2⟩ := rargs.get hp
              rw [hv] at e1; cases e1; exact e2
            · right
              rw [List.getElem?_append_right (by omega)] at hv
              rw [List.getElem?_append_right (by rw [← hr.length]; omega), ← hr.length] at hp
              intro P' h'
              obtain ⟨v', e1, e2⟩ := (hdv P' h').get hp
              rw [hv] at e1; cases e1; exact e2
          rcases r0 with r0 | r0
          · refine r0.move fun b o hb e => ⟨fun hm => ?_, kk b o e⟩
            rcases List.mem_append.mp hm with q | q
            · exact hb q
            · rw [fresh b (Wge b q)] at e; cases e
          · exact r0 _ _
        cases p <;> first | exact (Bool.noConfusion hno) | exact ⟨v, vi, hr''⟩
      · obtain ⟨i, hi, hp⟩ := lookup_zip e
        obtain ⟨v, hv, hr'⟩ := rall.get hp
        cases hr'
    refine wpAny_mono (hbody s.heap.objs.size _ (A.deeper _) s' (hA.deeper _) S (fun a ha => fresh a (Wge a ha)) ?_) (fun fl s'' d => ?_) fun _ _ x => x.elim
    · subst e
      exact ⟨h₁, tk, rfl, kk⟩
    · obtain ⟨v, rfl, q⟩ := d
      exact q
end
section
variable {C : Cx} {n : Nat} {env : Env} {σ : Loc} {Φ : Out → Prop} {Pout W : List Addr} {s s₁ s₂ : Shared}
theorem chgMono {W₂ : List Addr} (c : Chg W s s₁) (h : ∀ a ∈ W, a ∈ W₂) : Chg W₂ s s₁ := by
  obtain ⟨h', t, rfl, k⟩ := c
  exact ⟨h', t, rfl, fun b o hb e => k b o (fun q => hb (h _ q)) e⟩
theorem plainKeep {a : Addr} {its : Array Value} (hl : s.heap.PlainList a its) (c : Chg W s s₁) (h : a ∉ W) : s₁.heap.PlainList a its := by
  obtain ⟨m, e⟩ := hl
  exact ⟨m, chgHeap c _ _ h e⟩
theorem tapeGet {A : Around} {a : Addr} {x : Str} {p1 p2 p3 : Pos} {z : Nat} {its : Array Value} {j : Nat} {y : Value} (hs : σ.lookup x = some (.val (.ref a))) (hk : env.scope.kind = .function) (hd : (x == ("__debug__" : Str)) = false)
    (hA : Rm n A) (S : StR C env Pout W σ s) (hl : s.heap.PlainList a its) (hj : its[j]? = some y) (hz : j < 100) :
    wpAny C.M A (eval (.Subscript (.Name x p1) (.Constant (.int (j : Int)) z p2) p3) env) (fun v s' => v = y ∧ Keeps s s') noE s := by
  refine Subscript_ ?_
  refine wpAny_mono (EvE.name (n := n) hs hk hd A Pout W s hA S) (fun v s₁ h₁ => ?_) fun _ _ x => x
  rw [h₁.1.val_inv]
  have S₁ := S.quiet h₁.2
  refine wpAny_mono (EvE.cInt (n := n) A Pout W s₁ hA S₁) (fun u s₂ h₂ => ?_) fun _ _ x => x
  obtain ⟨t, rfl⟩ := h₂.1.int_inv
  have K := keepsTrans h₁.2 h₂.2
  have hl₂ : s₂.heap.PlainList a its := by
    obtain ⟨m, e⟩ := hl
    exact ⟨m, keepsHeap K _ _ e⟩
  exact tail_any (ops := _) hl₂.isList.typeIs list_getitem_lookup (wpAny_getItem_list hl₂.isList (by omega) (by omega) (by rw [Int.toNat_natCast]; exact hj) ⟨rfl, K⟩) rfl
theorem EvE.go {A : Around} {e : Expr} {p : PV} (he : EvE C n env σ e p) (hA : Rm n A) (S : StR C env Pout W σ s) : wpAny C.M A (eval e env) (fun v s' => RepT C (Pout ++ W) s'.heap v p ∧ Keeps s s') noE s := he _ _ _ _ hA S
theorem ExS.go {A : Around} {st : List Stmt} (h : ExS C n env σ st Φ) (hA : Rm n A) (S : StR C env Pout W σ s) : wpAny C.M A (execs st env) (Done C env Pout W s Φ) noE s := h _ _ _ _ hA S
theorem st_store {A : Around} {x : Str} {np pos : Pos} {e : Expr} {p : PV} (he : wpAny C.M A (eval e env) (fun v s' => Rep C (Pout ++ W) s'.heap v p ∧ Keeps s s') noE s) (S : StR C env Pout W σ s) (hx : Stored env x)
    (hs : swapsWith e (some (.Name x np)) pos.line env = pure false) : wpAny C.M A (exec (.Assign [.Name x np] e pos) env) (fun fl s₁ => fl = .next ∧ StR C env Pout W ((x, p) :: σ) s₁ ∧ Chg W s s₁) noE s := by
  refine wpAny_Assign_Name (wpAny_mono he (fun v s₁ k => ?_) fun _ _ x => x) hs
  exact (S.quiet k.2).store k.1 hx.1 hx.2 fun s₂ S₂ c => ⟨rfl, S₂, chgTrans' (keepsChg k.2) c⟩
theorem g_intsN {cs : List Int} {i : Nat} (h : i < cs.length) (hz : cs.length ≤ 16777216) : Op2 C n getItem (.lst (intL cs)) (.int i) (.int (cs.getD i 0)) := by
  refine g_list (l := intL cs) rfl (by omega) ?_ (by unfold intL; rw [List.length_map]; exact hz)
  unfold intL
  rw [Int.toNat_natCast, List.getElem?_map, List.getElem?_eq_getElem h]
  simp [List.getD_eq_getElem?_getD, h]
theorem c_lenI {cs : List Int} (hz : cs.length ≤ 16777216) : CallR C n (.builtin "len") [.lst (intL cs)] (.int cs.length) :=
  (c_lenL (l := intL cs) rfl (by unfold intL; rw [List.length_map]; exact hz)).conv (by unfold intL; rw [List.length_map])
/-- what a draw tells -/
noncomputable def drawV (cs : List Int) (i : Nat) (k : Int) : Int := Int.fmod (cs.getD (i % cs.length) 0 + ((i / cs.length : Nat) : Int) * (7 * (i : Int) + 3)) k
set_option hygiene false in
local macro_rules | `(tactic| tm_at "calls") => `(tactic| with_reducible first | refine' c_lenI ?_)
theorem draw_call (S : Su C) {A : Around} {P : List Addr} {s : Shared} {a : Addr} {v₀ : Value} {u t : Tok} {cs : List Int} {i : Nat} {k : Int} (hA : Rm (n + 1) A) (hg : KeepH C.g s.heap) (hP : PrivOk C P s.heap) (ha : a ∈ P)
    (hl : s.heap.PlainList a #[v₀, .int (i : Int) u]) (hr : Rep C P s.heap v₀ (.lst (intL cs))) (h0 : 0 < cs.length) (hz : cs.length ≤ 1000) (hi : i ≤ 1000) (hk : k ≠ 0) :
    wpAny C.M A (call (.ref 222) [.ref a, .int k t]) (fun r s' => (∃ t', r = .int (drawV cs i k) t') ∧ Chg [a] s s' ∧ ∃ u, s'.heap.PlainList a #[v₀, .int ((i + 1 : Nat) : Int) u]) noE s := by
  refine call_fnX (n := n) (args := [.val (.ref a), .int k]) (params := ["tape", "limit"]) (dp := []) (dv := []) S.ok (S.K 222 _ rfl) rfl (codeRec_of S.K rfl) rfl rfl (fun s vs hl _ => bind2 hl fun _ _ => rfl) (fun _ _ => .nil) rfl (by decide) (by decide) (pk2 (.l rfl) (.l rfl)) rfl rfl rfl hA hg hP (.cons (.inl (.val _)) (.cons (.inl (.int k t)) .nil)) (fun L W A' s₀ hA' S₀ hW K₀ => ?_)
  conv => enter [3, 1]; whnf
  have k₀ := keepsHeap K₀
  have hsa : ∃ o, s.heap.get? a = some o := let ⟨m, e⟩ := hl; ⟨_, e⟩
  have haW : a ∉ W := fun q => by
    obtain ⟨o, e⟩ := hsa
    rw [hW a q] at e; cases e
  have hl₀ : s₀.heap.PlainList a #[v₀, .int (i : Int) u] := let ⟨m, e⟩ := hl; ⟨m, k₀ _ _ e⟩
  have hr₀ : Rep C (P ++ W) s₀.heap v₀ (.lst (intL cs)) := hr.move fun b o hb e => ⟨fun q => by
    rcases List.mem_append.mp q with q | q
    · exact hb q
    · (rw [hW b q] at e; cases e), k₀ b o e⟩
  -- cells = tape[0]
  refine wpAny_execs_cons (wpAny_mono (st_store (p := .lst (intL cs)) (wpAny_mono (tapeGet (n := n) (j := 0) rfl rfl (by decide) hA' S₀ hl₀ rfl (by decide)) (fun v s' h => ?_) fun _ _ x => x) S₀ (stored_local rfl rfl) rfl) (fun fl s₁ h₁ => ?_) fun _ _ x => x)
  · obtain ⟨rfl, K⟩ := h
    exact ⟨hr₀.keep (keepsHeap K), K⟩
  obtain ⟨rfl, S₁, c₁⟩ := h₁
  have hl₁ := plainKeep hl₀ c₁ haW
  -- at = tape[1]
  refine wpAny_execs_cons (wpAny_mono (st_store (p := .int i) (wpAny_mono (tapeGet (n := n) (j := 1) rfl rfl (by decide) hA' S₁ hl₁ rfl (by decide)) (fun v s' h => ?_) fun _ _ x => x) S₁ (stored_local rfl rfl) rfl) (fun fl s₂ h₂ => ?_) fun _ _ x => x)
  · obtain ⟨rfl, K⟩ := h
    exact ⟨.int _ _, K⟩
  obtain ⟨rfl, S₂, c₂⟩ := h₂
  have hl₂ := plainKeep hl₁ c₂ haW
  -- tape[1] = at + 1
  refine wpAny_execs_cons ?_
  refine wpAny_Assign_Subscript ?_ rfl
  refine wpAny_mono (EvE.go (n := n) (p := .int ((i + 1 : Nat) : Int)) ?ev hA' S₂) (fun v s₃ h₃ => ?_) fun _ _ x => x
  case ev => exact EvE.conv (EvE.binop (EvE.name rfl rfl (by decide)) EvE.cInt o_add) (by push_cast; rfl)
  have S₃ := S₂.quiet h₃.2
  obtain ⟨tv, rfl⟩ := h₃.1.int_inv
  refine wpAny_mono (EvE.name (n := n) (p := .val (.ref a)) rfl rfl (by decide) A' P W s₃ hA' S₃) (fun v s₄ h₄ => ?_) fun _ _ x => x
  have S₄ := S₃.quiet h₄.2
  rw [h₄.1.val_inv]
  refine wpAny_mono (EvE.cInt (n := n) A' P W s₄ hA' S₄) (fun v s₅ h₅ => ?_) fun _ _ x => x
  have S₅ := S₄.quiet h₅.2
  obtain ⟨t5, rfl⟩ := h₅.1.int_inv
  have c₅ : Chg W s₂ s₅ := keepsChg (keepsTrans h₃.2 (keepsTrans h₄.2 h₅.2))
  obtain ⟨m5, e5⟩ := plainKeep hl₂ c₅ haW
  refine ki_setAt e5 (by decide) (by decide) (by show (1 : Int) < ((2 : Nat) : Int); decide) ?_
  have e6 : (s₅.heap.update a (Obj.mapSeq (·.setIfInBounds (1 : Int).toNat (.int ((i + 1 : Nat) : Int) tv)))).get? a = some { cls := .type "list", data := .seq #[v₀, .int ((i + 1 : Nat) : Int) tv] m5 } := by
    rw [Heap.get?_update_self _ e5 rfl]
    rfl
  have hsb : Heap.SameBut a s₅.heap (s₅.heap.update a (Obj.mapSeq (·.setIfInBounds (1 : Int).toNat (.int ((i + 1 : Nat) : Int) tv)))) := Heap.SameBut.update ..
  generalize hh6 : s₅.heap.update a (Obj.mapSeq (·.setIfInBounds (1 : Int).toNat (.int ((i + 1 : Nat) : Int) tv))) = h₆ at e6 hsb
  have c₆ : Chg [a] s₅ { s₅ with heap := h₆ } := ⟨h₆, s₅.toks, rfl, fun b o hb e => (hsb.2 b fun q => hb (by rw [q]; exact .head _)).trans e⟩
  have S₆ := S₅.outer ha (fun m hm => nsList hm ⟨m5, e5⟩) (fun v hv => cellList hv ⟨m5, e5⟩) c₆ ⟨_, e6⟩
  show wpAny _ _ (execs _ _) _ _ { s₅ with heap := h₆ }
  refine wpAny_mono (ExS.go (n := n) (Φ := fun o => o = .ret (.int (drawV cs i k))) ?last hA' S₆) (fun fl s₇ d => ?_) fun _ _ x => x
  case last =>
    refine xs_ret (p := .int (drawV cs i k)) (EvE.binop (b := .int k) (EvE.binop (a := .int (cs.getD (i % cs.length) 0)) (b := .int (((i / cs.length : Nat) : Int) * (7 * (i : Int) + 3))) (EvE.sub (b := .int ((i % cs.length : Nat) : Int)) (EvE.name rfl rfl (by decide)) (EvE.conv (p := .int (Int.fmod (i : Int) (cs.length : Int))) ?_ (by rw [fmodN])) Items.lst (g_intsN (Nat.mod_lt _ h0) (by omega)) (fun _ _ => ⟨_, rfl⟩)) (EvE.binop (a := .int ((i / cs.length : Nat) : Int)) (b := .int (7 * (i : Int) + 3)) (EvE.conv (p := .int (Int.fdiv (i : Int) (cs.length : Int))) ?_ (by rw [fdivN])) ?_ (o_mulS (Int.natCast_nonneg _) ?_)) o_add) (EvE.name rfl rfl (by decide)) (o_mod hk)) rfl rfl
    · tm_at "go"
      all_goals (try tm_at "side")
    · tm_at "go"
      all_goals (try tm_at "side")
      rw [Int.natAbs_natCast]
      exact Nat.lt_of_lt_of_le ((Nat.log2_lt (k := 10) (by omega)).mpr (by omega)) (by decide)
    · tm_at "go"
      all_goals (try tm_at "side")
    · have := Nat.div_le_self i cs.length
      generalize i / cs.length = q at this ⊢
      omega
  obtain ⟨⟨out, rfl, v, rfl, r⟩, c₇⟩ := d
  refine ⟨v, rfl, ?_, ?_, tv, plainKeep ⟨m5, e6⟩ c₇ haW⟩
  · cases r
    exact ⟨_, rfl⟩
  · refine chgTrans (keepsChg K₀) (W₁ := a :: W) (fun x hx => ?_) ?_
    · rcases List.mem_cons.mp hx with rfl | hx
      · exact .inl (.head _)
      · exact .inr (hW x hx)
    · have up : ∀ x ∈ W, x ∈ a :: W := fun x hx => .tail _ hx
      have up1 : ∀ x ∈ [a], x ∈ a :: W := fun x hx => by rw [List.mem_singleton.mp hx]; exact .head _
      exact chgTrans' (chgMono c₁ up) (chgTrans' (chgMono c₂ up) (chgTrans' (chgMono c₅ up) (chgTrans' (chgMono c₆ up1) (chgMono c₇ up))))
end
section
variable {C : Cx} {n : Nat} {env : Env} {σ : Loc} {Φ : Out → Prop} {Pout W : List Addr} {s s₁ s₂ : Shared}
/-- an own list is set anew by a call that may make new objects -/
theorem StR.setOwnC (S : StR C env Pout W σ s) {ad : Str → Addr} (hv : ∀ x p, σ.lookup x = some p → SlotIs C env (Pout ++ W) W s.heap ad x p) (hd : ∀ x y l l', σ.lookup x = some (.own l) → σ.lookup y = some (.own l') → ad x = ad y → x = y)
    {x : Str} {l l' : List PV} {vs : List Value} {s' : Shared} (hx : σ.lookup x = some (.own l)) (c : Chg [ad x] s s') (hl : s'.heap.PlainList (ad x) vs.toArray) (hr : RepAll C (Pout ++ W) s.heap vs l') : StR C env Pout W ((x, .own l') :: σ) s' := by
  obtain ⟨x1, x2, vs₀, x3, _⟩ := hv x _ hx
  obtain ⟨m, hm⟩ := S.ns
  have hP : ad x ∈ Pout ++ W := List.mem_append_right _ x2
  have k : ∀ b o, b ≠ ad x → s.heap.get? b = some o → s'.heap.get? b = some o := fun b o hb e => chgHeap c b o (by simpa using hb) e
  have old : ∀ b o, b ∉ Pout ++ W → s.heap.get? b = some o → b ∉ Pout ++ W ∧ s'.heap.get? b = some o := fun b o hb e => ⟨hb, k b o (fun q => hb (q ▸ hP)) e⟩
  have nsk : ∀ m', s.heap.Ns env.locals m' → s'.heap.Ns env.locals m' := fun m' h => h.at' fun o e => k _ o (fun q => nsList (q ▸ h) x3) e
  have ck : ∀ c' v', s.heap.IsCell c' v' → s'.heap.IsCell c' v' := fun c' v' h => let ⟨o, e, d⟩ := h; ⟨o, k _ o (fun q => cellList h (q ▸ x3)) e, d⟩
  have vk : ∀ y v, VarIs env s.heap y v → VarIs env s'.heap y v := fun y v h => by
    rcases h with ⟨a, m', h1, h2⟩ | ⟨a, c', h1, h2⟩
    · exact .inl ⟨a, m', nsk m' h1, h2⟩
    · exact .inr ⟨a, c', h1, ck _ _ h2⟩
  refine ⟨fun b o e => k b o (fun q => ?_) (S.keep b o e), fun a ha => ?_, S.new, S.disj, S.loc, S.cellP, fun hf n c e => ?_, S.apart, ⟨m, nsk m hm⟩, ad, fun y p e => ?_, fun y z a b e e' q => ?_⟩
  · subst q; rw [S.new _ hP] at e; cases e
  · by_cases q : a = ad x
    · subst q
      obtain ⟨j, e⟩ := hl
      exact ⟨_, e⟩
    · obtain ⟨o, e⟩ := S.there a ha
      exact ⟨o, k a o q e⟩
  · obtain ⟨a, v, h⟩ := S.cellW hf n c e
    exact ⟨a, v, ck _ _ h⟩
  · by_cases hy : y = x
    · subst hy
      rw [lookup_cons_eq] at e; cases e
      exact ⟨vk _ _ x1, x2, vs, hl, hr.move old⟩
    · rw [lookup_cons_ne hy] at e
      have q := hv y p e
      cases p with
      | own l₂ =>
        obtain ⟨a1, a2, ws, ⟨j, a3⟩, a4⟩ := q
        exact ⟨vk _ _ a1, a2, ws, ⟨j, k _ _ (fun q => hy (hd y x _ _ e hx q)) a3⟩, a4.move old⟩
      | _ => obtain ⟨u, a1, a2⟩ := q; exact ⟨u, vk _ _ a1, a2.move old⟩
  · by_cases hy : y = x
    · by_cases hz : z = x
      · rw [hy, hz]
      · subst hy; rw [lookup_cons_ne hz] at e'; exact hd _ _ _ _ hx e' q
    · by_cases hz : z = x
      · subst hz; rw [lookup_cons_ne hy] at e; exact hd _ _ _ _ e hx q
      · rw [lookup_cons_ne hy] at e; rw [lookup_cons_ne hz] at e'; exact hd _ _ _ _ e e' q

theorem ownName {A : Around} {x : Str} {np : Pos} {a : Addr} {Q : Value → Shared → Prop} (hv : VarIs env s.heap x (.ref a)) (hk : env.scope.kind = .function) (hd : (x == ("__debug__" : Str)) = false) (h : Q (.ref a) s) : wpAny C.M A (eval (.Name x np) env) Q noE s := by
  rcases hv with ⟨hl, m, hn, hm⟩ | ⟨hc, c, hl, hi⟩
  · exact wpAny_Name (wpAny_loadName_local hk hl hn hm h) hd
  · exact wpAny_Name (wpAny_loadName_cell hk hc hl hi h) hd

/-- a draw, in the law -/
theorem EvX.draw (S : Su C) {x : Str} {np xp cp pos : Pos} {z : Nat} {cs : List Int} {i : Nat} {k : Int} (hk : env.scope.kind = .function) (hg : env.globals = mainGlobals) (hx : env.kindOf "_law_draw" = some .globalImplicit) (hd : (x == ("__debug__" : Str)) = false)
    (ht : σ.lookup x = some (.own [.lst (intL cs), .int i])) (h0 : 0 < cs.length) (hz : cs.length ≤ 1000) (hi : i ≤ 1000) (hk0 : k ≠ 0) :
    EvX C (n + 1) env σ (.Call (.Name "_law_draw" np) [.Name x xp, .Constant (.int k) z cp] [] pos) (.int (drawV cs i k)) ((x, .own [.lst (intL cs), .int ((i + 1 : Nat) : Int)]) :: σ) := by
  intro A Pout W s hA S₀
  refine Call_ ?_
  refine wpAny_mono (EvE.go (Su.n_law_draw S hk hg hx) hA S₀) (fun v s₁ h₁ => ?_) fun _ _ x => x
  have S₁ := S₀.quiet h₁.2
  rw [h₁.1.val_inv]
  refine callWith_of (P := KeepH C.g) rfl (KeepOf.fn (S.K 222 _ rfl) rfl) ?_
  refine evalArgs_plain (spliced_cons ?_)
  obtain ⟨ad, hv, hdis⟩ := S₁.vars
  obtain ⟨x1, x2, vs, x3, x4⟩ := hv x _ ht
  refine ownName x1 hk hd ?_
  refine spliced_cons (wpAny_mono (EvE.go (EvE.cInt (i := k)) hA S₁) (fun u s₂ h₂ => spliced_nil ?_) fun _ _ x => x)
  have S₂ := S₁.quiet h₂.2
  have k₂ := keepsHeap h₂.2
  obtain ⟨tu, rfl⟩ := h₂.1.int_inv
  refine ⟨S₂.keep, ?_⟩
  cases x4 with
  | @cons v₀ vs' _ _ r0 x4 =>
  cases x4 with
  | @cons v₁ vs' _ _ r1 x4 =>
  cases x4
  cases r1 with
  | int _ ti =>
  have hl₂ : s₂.heap.PlainList (ad x) #[v₀, .int (i : Int) ti] := let ⟨m, e⟩ := x3; ⟨m, k₂ _ _ e⟩
  refine wpAny_mono (draw_call S hA S₂.keep S₂.priv (List.mem_append_right _ x2) hl₂ (r0.keep k₂) h0 hz hi hk0) (fun r s₃ h₃ => ?_) fun _ _ x => x
  obtain ⟨⟨tr, rfl⟩, c₃, ui, hl₃⟩ := h₃
  have S₃ := S₂.setOwnC (ad := ad) (vs := [v₀, .int ((i + 1 : Nat) : Int) ui]) (l' := [.lst (intL cs), .int ((i + 1 : Nat) : Int)]) (fun y q e => (hv y q e).keep k₂) hdis ht c₃ hl₃ (.cons (r0.keep k₂) (.cons (.int _ _) .nil))
  exact ⟨.int _ _, S₃, chgTrans' (keepsChg (keepsTrans h₁.2 h₂.2)) (chgMono c₃ fun a ha => by rw [List.mem_singleton.mp ha]; exact x2)⟩
theorem drawV_range {cs : List Int} {i : Nat} {k : Int} (hk : 0 < k) : 0 ≤ drawV cs i k ∧ drawV cs i k < k := by
  unfold drawV
  exact ⟨Int.fmod_nonneg_of_pos _ hk, Int.fmod_lt_of_pos _ hk⟩

/-- the law's menu -/
theorem Su.n_menu (S : Su C) {pos : Pos} (hk : env.scope.kind = .function) (hg : env.globals = mainGlobals) (hx : env.kindOf "_law_octets" = some .globalImplicit) : EvE C n env σ (.Name "_law_octets" pos) (.tup (menu.map .bytes)) := by
  refine EvE.glob S.ok (mg_of S.K S.ok.gl (by rfl)) (fun h kh P hP => ?_) hk hg hx (by decide)
  have e := S.K 223 _ rfl
  refine Rep.tup (a := 223) (fun hm => ?_) ⟨_, kh _ _ e, rfl, _, rfl⟩ ?_
  · have := hP _ hm
    rw [e] at this; cases this
  · exact .cons (.bytes [97] _) (.cons (.bytes [90, 122] _) (.cons (.bytes [32] _) (.cons (.bytes [9] _) (.cons (.bytes [13] _) (.cons (.bytes [10] _) (.cons (.bytes [13, 10] _) (.cons (.bytes [46] _) (.cons (.bytes [61] _) (.cons (.bytes [0] _) (.cons (.bytes [128] _) (.cons (.bytes [255] _) .nil)))))))))))
theorem menu_get {i : Int} (h0 : 0 ≤ i) (h1 : i < 12) : Op2 C n getItem (.tup (menu.map .bytes)) (.int i) (.bytes (menu.getD i.toNat [])) := by
  refine g_tup h0 ?_ (by decide)
  obtain ⟨j, rfl⟩ := Int.eq_ofNat_of_zero_le h0
  have hj : j < menu.length := by show j < 12; omega
  rw [Int.toNat_natCast, List.getElem?_map, List.getElem?_eq_getElem hj]
  simp [List.getD_eq_getElem?_getD, hj]
theorem menu_small : ∀ j : Nat, j < 12 → menu.getD j [] ≠ [] ∧ (menu.getD j []).length ≤ 2 := by decide
end
section
variable {C : Cx} {n : Nat}
set_option hygiene false in
local macro_rules | `(tactic| tm_at "calls") => `(tactic| with_reducible first | exact hex_worth_ok S _ | exact is_plain_ok S _ | refine' quoted_code_ok S _ ?_)
theorem beqNN (a b : Nat) : ((a : Int) == (b : Int)) = (a == b) := by
  rw [Bool.eq_iff_iff]; simp [Int.ofNat_inj]
theorem byte_lt (c : UInt8) : c.toNat < 256 := c.toNat_lt
noncomputable def byteAt (l : List UInt8) (i : Nat) : Nat := (l.getD i 0).toNat
noncomputable def pieceAt (l : List UInt8) (i : Nat) : List UInt8 :=
  if isPlain (byteAt l i) && !((byteAt l i == 32 || byteAt l i == 9) && i + 1 == l.length) then [l.getD i 0] else quotedCode (byteAt l i)
noncomputable def pieces (l : List UInt8) : List (List UInt8) := (List.range l.length).map (pieceAt l)
theorem piece_test {l : List UInt8} {i : Nat} (hi : i < l.length) : (isPlain (l.getD ((i : Int)).toNat 0).toNat && (!((((l.getD ((i : Int)).toNat 0).toNat : Int) == 32 || ((l.getD ((i : Int)).toNat 0).toNat : Int) == 9) && ((i : Int) == (l.length : Int) - 1 && true)) && true)) =
    (isPlain (byteAt l i) && !((byteAt l i == 32 || byteAt l i == 9) && i + 1 == l.length)) := by
  have e1 : (((l.getD i 0).toNat : Int) == 32) = ((l.getD i 0).toNat == 32) := beqNN _ 32
  have e2 : (((l.getD i 0).toNat : Int) == 9) = ((l.getD i 0).toNat == 9) := beqNN _ 9
  have e3 : ((i : Int) == (l.length : Int) - 1) = (i + 1 == l.length) := by
    rw [Bool.eq_iff_iff]; simp; omega
  rw [Int.toNat_natCast, e1, e2, e3, Bool.and_true, Bool.and_true]
  rfl
theorem line_pieces_ok (S : Su C) (l : List UInt8) (hz : l.length ≤ 1000000) : CallR C (n + 2) (.ref 146) [.bytes l] (.lst ((pieces l).map .bytes)) := by
  refine CallR.fn (params := ["line"]) (dp := []) (dv := []) S.ok (S.K 146 _ rfl) rfl (codeRec_of S.K rfl) rfl rfl (fun s vs hl _ => bind1 hl fun _ => rfl) (fun _ _ => .nil) rfl (by decide) (by decide) (pk1 (.l rfl)) rfl rfl rfl (fun L => ?_) rfl
  tm_at "lit"
  tm_at "go"
  refine xs_forK (fun x => [("at", x)]) (fun i => [("pieces", .own ((List.range i).map fun i => .bytes (pieceAt l i))), ("line", .bytes l)]) (a := .rng 0 l.length 1) ?_ (fun _ => rfl) i_rng (fun x hx => .name (stored_local rfl rfl)) ?_ (fun i x hx => ?_) ?_
  · tm_at "go"
    all_goals (try tm_at "side")
  · tm_at "go"
    all_goals rfl
  · obtain ⟨hi, rfl⟩ := rng_at0 hx
    tm_at "go"
    all_goals (try tm_at "side")
    · rename_i h
      refine own_snoc (f := fun i => PV.bytes (pieceAt l i)) (congrArg PV.bytes ?_)
      rw [piece_test hi] at h
      unfold pieceAt
      rw [if_pos h, cutNN (a := i) (b := i + 1) rfl (by omega), show i + 1 - i = 1 by omega, List.drop_eq_getElem_cons hi, getD_of hi]
      rfl
    · exact byte_lt _
    · rename_i h
      refine own_snoc (f := fun i => PV.bytes (pieceAt l i)) (congrArg PV.bytes ?_)
      rw [piece_test hi] at h
      unfold pieceAt
      rw [if_neg (by rw [h]; decide)]
      rfl
  · tm_at "go"
    all_goals (try tm_at "side")
    rw [rng_len]
    unfold pieces
    rw [List.map_map]
    rfl
end
section
variable {C : Cx} {n : Nat}
noncomputable def softStep (ps : List (List UInt8)) (st : List (List UInt8) × List UInt8) (i : Nat) : List (List UInt8) × List UInt8 :=
  if (if i + 1 = ps.length then 76 else 75) < st.2.length + (ps.getD i []).length then (st.1 ++ [st.2 ++ [61]], ps.getD i []) else (st.1, st.2 ++ ps.getD i [])
noncomputable def softSt (ps : List (List UInt8)) (i : Nat) : List (List UInt8) × List UInt8 := (List.range i).foldl (softStep ps) ([], [])
noncomputable def softLines (ps : List (List UInt8)) : List (List UInt8) := (softSt ps ps.length).1 ++ [(softSt ps ps.length).2]
theorem softSt_succ (ps : List (List UInt8)) (i : Nat) : softSt ps (i + 1) = softStep ps (softSt ps i) i := by
  unfold softSt
  rw [List.range_succ, List.foldl_append]; rfl
theorem getD_len {ps : List (List UInt8)} (hp : ∀ p ∈ ps, p.length ≤ 3) (i : Nat) : (ps.getD i []).length ≤ 3 := by
  rw [List.getD_eq_getElem?_getD]
  cases e : ps[i]? with
  | none => simp
  | some p => exact hp p (List.mem_of_getElem? e)
theorem softSt_le {ps : List (List UInt8)} (hp : ∀ p ∈ ps, p.length ≤ 3) : ∀ i, (softSt ps i).1.length ≤ i ∧ (softSt ps i).2.length ≤ 3 * i
  | 0 => ⟨Nat.le_refl _, Nat.le_refl _⟩
  | i + 1 => by
    have ih := softSt_le hp i
    have := getD_len hp i
    rw [softSt_succ]
    unfold softStep
    generalize (if i + 1 = ps.length then 76 else 75) = w
    generalize ps.getD i [] = q at this ⊢
    split
    · simp; omega
    · simp; omega
theorem soft_yes {ps : List (List UInt8)} {i : Nat} (h : decide ((bif ((i : Int) == (ps.length : Int) - 1) then (76 : Int) else 76 - 1) < ((softSt ps i).2.length : Int) + ((ps.getD i []).length : Int)) = true) :
    softSt ps (i + 1) = ((softSt ps i).1 ++ [(softSt ps i).2 ++ [61]], ps.getD i []) := by
  rw [softSt_succ]
  unfold softStep
  rw [if_pos]
  simp only [decide_eq_true_eq] at h
  by_cases e : i + 1 = ps.length
  · rw [if_pos e]
    have : ((i : Int) == (ps.length : Int) - 1) = true := by simp; omega
    rw [this, cond_true] at h
    omega
  · rw [if_neg e]
    have : ((i : Int) == (ps.length : Int) - 1) = false := by simp; omega
    rw [this, cond_false] at h
    omega
theorem soft_no {ps : List (List UInt8)} {i : Nat} (h : decide ((bif ((i : Int) == (ps.length : Int) - 1) then (76 : Int) else 76 - 1) < ((softSt ps i).2.length : Int) + ((ps.getD i []).length : Int)) = false) :
    softSt ps (i + 1) = ((softSt ps i).1, (softSt ps i).2 ++ ps.getD i []) := by
  rw [softSt_succ]
  unfold softStep
  rw [if_neg]
  simp only [decide_eq_false_iff_not] at h
  by_cases e : i + 1 = ps.length
  · rw [if_pos e]
    have : ((i : Int) == (ps.length : Int) - 1) = true := by simp; omega
    rw [this, cond_true] at h
    omega
  · rw [if_neg e]
    have : ((i : Int) == (ps.length : Int) - 1) = false := by simp; omega
    rw [this, cond_false] at h
    omega
theorem bytes_at {ls : List (List UInt8)} {i : Nat} {x : PV} (h : (ls.map PV.bytes)[i]? = some x) : ∃ b, ls[i]? = some b ∧ x = .bytes b := by
  rw [List.getElem?_map] at h
  obtain ⟨j, hj, rfl⟩ := Option.map_eq_some_iff.mp h
  exact ⟨j, hj, rfl⟩
theorem soft_lines_ok (S : Su C) (ps : List (List UInt8)) (hz : ps.length ≤ 100000) (hp : ∀ p ∈ ps, p.length ≤ 3) : CallR C (n + 1) (.ref 153) [.lst (ps.map .bytes), .int 76] (.lst ((softLines ps).map .bytes)) := by
  refine CallR.fn (params := ["pieces", "width"]) (dp := []) (dv := []) S.ok (S.K 153 _ rfl) rfl (codeRec_of S.K rfl) rfl rfl (fun s vs hl _ => bind2 hl fun _ _ => rfl) (fun _ _ => .nil) rfl (by decide) (by decide) (pk2 (.l rfl) (.l rfl)) rfl rfl rfl (fun L => ?_) rfl
  tm_at "lit"
  tm_at "go"
  refine xs_forK (fun x => [("at", x)]) (fun i => [("lines", .own ((softSt ps i).1.map .bytes)), ("line", .bytes (softSt ps i).2), ("pieces", .lst (ps.map .bytes)), ("width", .int 76)]) (a := .rng 0 ps.length 1) ?_ (fun _ => rfl) i_rng (fun x hx => .name (stored_local rfl rfl)) ?_ (fun i x hx => ?_) ?_
  · tm_at "go"
    all_goals (try tm_at "side")
  · tm_at "go"
    all_goals rfl
  · obtain ⟨hi, rfl⟩ := rng_at0 hx
    have h1 := softSt_le hp i
    have h2 := getD_len hp i
    tm_at "go"
    all_goals (try tm_at "side")
    · rename_i h
      rw [soft_yes h]; simp
    · rename_i h
      rw [soft_yes h]; rfl
    · rename_i h
      rw [soft_no h]
    · rename_i h
      rw [soft_no h]
  · rw [rng_len]
    have h1 := softSt_le hp ps.length
    tm_at "go"
    all_goals (try tm_at "side")
    refine congrArg (fun l => Out.ret (PV.lst l)) ?_
    unfold softLines
    rw [List.map_append]; rfl

noncomputable def textLines (o : List UInt8) (t : Bool) : List (List UInt8) := if t then splitC o else [o]
theorem text_lines_ok (S : Su C) (o : List UInt8) (t : Bool) (hz : o.length ≤ 1000000) : CallR C (n + 1) (.ref 160) [.bytes o, .bool t] (.lst ((textLines o t).map .bytes)) := by
  refine CallR.fn (params := ["octets", "is_text"]) (dp := []) (dv := []) S.ok (S.K 160 _ rfl) rfl (codeRec_of S.K rfl) rfl rfl (fun s vs hl _ => bind2 hl fun _ _ => rfl) (fun _ _ => .nil) rfl (by decide) (by decide) (pk2 (.l rfl) (.l rfl)) rfl rfl rfl (fun L => ?_) rfl
  tm_at "lit"
  refine xs_ret (EvE.ite (b := t) ?_ (fun h => ?_) (fun h => ?_)) rfl rfl
  · tm_at "go"
  · subst h
    tm_at "go"
    exact c_split hz
  · subst h
    refine EvE.conv (p := .lst [.bytes o]) ?_ rfl
    tm_at "go"

noncomputable def joinedParts (ls : List (List UInt8)) : List (List UInt8) := ls.flatMap fun l => if l.drop (l.length - 1) == [61] then [l, [13, 10]] else [l]
theorem jp_snoc (ls : List (List UInt8)) (b : List UInt8) : joinedParts (ls ++ [b]) = joinedParts ls ++ (if b.drop (b.length - 1) == [61] then [b, [13, 10]] else [b]) := by
  unfold joinedParts
  rw [List.flatMap_append]
  simp
theorem jp_cons (ls : List (List UInt8)) (b : List UInt8) : joinedParts (b :: ls) = (if b.drop (b.length - 1) == [61] then [b, [13, 10]] else [b]) ++ joinedParts ls := by
  unfold joinedParts
  rw [List.flatMap_cons]
theorem jp_len (ls : List (List UInt8)) (i : Nat) : (joinedParts (ls.take i)).length ≤ 2 * ls.length := by
  have key : ∀ l : List (List UInt8), (joinedParts l).length ≤ 2 * l.length := by
    intro l
    induction l with
    | nil => simp [joinedParts]
    | cons a r ih =>
      rw [jp_cons]
      generalize joinedParts r = J at ih ⊢
      split <;> simp <;> omega
  have := key (ls.take i)
  have := List.length_take_le i ls
  have := List.length_take_le' i ls
  omega
theorem jp_sum (ls : List (List UInt8)) : ((joinedParts ls).map List.length).sum ≤ (ls.map List.length).sum + 2 * ls.length := by
  induction ls with
  | nil => simp [joinedParts]
  | cons a r ih =>
    rw [jp_cons]
    generalize joinedParts r = J at ih ⊢
    split <;> simp <;> omega
theorem sum_mem {ls : List (List UInt8)} {b : List UInt8} (h : b ∈ ls) : b.length ≤ (ls.map List.length).sum := by
  induction ls with
  | nil => cases h
  | cons a r ih =>
    rcases List.mem_cons.mp h with rfl | h
    · simp
    · have := ih h; simp; omega
theorem joined_lines_ok (S : Su C) (ls : List (List UInt8)) (hz : ls.length ≤ 1000000) (hz2 : (ls.map List.length).sum + 2 * ls.length ≤ 1000000) : CallR C (n + 1) (.ref 175) [.lst (ls.map .bytes)] (.bytes (joinedParts ls).flatten) := by
  refine CallR.fn (params := ["lines"]) (dp := []) (dv := []) S.ok (S.K 175 _ rfl) rfl (codeRec_of S.K rfl) rfl rfl (fun s vs hl _ => bind1 hl fun _ => rfl) (fun _ _ => .nil) rfl (by decide) (by decide) (pk1 (.l rfl)) rfl rfl rfl (fun L => ?_) rfl
  tm_at "lit"
  tm_at "go"
  refine xs_forK (fun x => [("line", x)]) (fun i => [("parts", .own ((joinedParts (ls.take i)).map .bytes))]) (a := .lst (ls.map .bytes)) ?_ (fun _ => rfl) i_list (fun x hx => .name (stored_local rfl rfl)) ?_ (fun i x hx => ?_) ?_
  · tm_at "go"
  · tm_at "go"
    all_goals rfl
  · obtain ⟨b, hb, rfl⟩ := bytes_at hx
    have hlen := jp_len ls i
    have hl := List.length_take_le i ls
    have hst : ls.take (i + 1) = ls.take i ++ [b] := by rw [List.take_add_one, hb]; rfl
    have hbl : b.length ≤ 1000000 := by have := sum_mem (List.mem_of_getElem? hb); omega
    tm_at "go"
    all_goals (try tm_at "side")
    · rename_i h
      rw [cut_last] at h
      rw [hst, jp_snoc, if_pos h]; simp
    · rename_i h
      rw [cut_last] at h
      rw [hst, jp_snoc, if_neg (by rw [h]; decide)]; simp
  · rw [List.length_map, List.take_length]
    have h1 := jp_sum ls
    tm_at "go"
    all_goals (try tm_at "side")
    rw [inter_nil]

set_option hygiene false in
local macro_rules | `(tactic| tm_at "calls") => `(tactic| with_reducible first | refine' joined_lines_ok S _ ?_ ?_ | refine' text_lines_ok S _ _ ?_ | refine' soft_lines_ok S _ ?_ ?_ | refine' line_pieces_ok S _ ?_)

/-- the rows that a line of the text becomes, an end behind -/
noncomputable def lineRows (L : List UInt8) : List (List UInt8) := softLines (pieces L) ++ [[13, 10]]
noncomputable def allRows (o : List UInt8) (t : Bool) : List (List UInt8) := (textLines o t).flatMap lineRows
noncomputable def quotedEnc (o : List UInt8) (t : Bool) : List UInt8 := (joinedParts ((allRows o t).take ((allRows o t).length - 1))).flatten
theorem pieceAt_le (l : List UInt8) (i : Nat) : (pieceAt l i).length ≤ 3 := by
  unfold pieceAt
  split
  · simp
  · simp [quotedCode]
theorem pieces_le (l : List UInt8) : ∀ p ∈ pieces l, p.length ≤ 3 := by
  intro p hp
  unfold pieces at hp
  obtain ⟨i, _, rfl⟩ := List.mem_map.mp hp
  exact pieceAt_le l i
theorem pieces_len (l : List UInt8) : (pieces l).length = l.length := by simp [pieces]
theorem cut_pred {α : Type} {l : List α} : cut l none (some ((l.length : Int) - 1)) = l.take (l.length - 1) := by
  rcases Nat.eq_zero_or_pos l.length with h | h
  · have : l = [] := List.eq_nil_of_length_eq_zero h
    subst this; rfl
  · exact cut0N (by omega)
noncomputable def lsum (ls : List (List UInt8)) : Nat := (ls.map List.length).sum
theorem lsum_cons (a : List UInt8) (r : List (List UInt8)) : lsum (a :: r) = a.length + lsum r := by simp [lsum]
theorem lsum_append (a b : List (List UInt8)) : lsum (a ++ b) = lsum a + lsum b := by simp [lsum]
theorem lsum_take (ls : List (List UInt8)) (i : Nat) : lsum (ls.take i) ≤ lsum ls := by
  conv => rhs; rw [← List.take_append_drop i ls, lsum_append]
  omega
theorem softSt_sum {ps : List (List UInt8)} (hp : ∀ p ∈ ps, p.length ≤ 3) : ∀ i, lsum (softSt ps i).1 + (softSt ps i).2.length ≤ 4 * i
  | 0 => Nat.le_refl _
  | i + 1 => by
    have ih := softSt_sum hp i
    have := getD_len hp i
    rw [softSt_succ]
    unfold softStep
    generalize (if i + 1 = ps.length then 76 else 75) = w
    generalize ps.getD i [] = q at this ⊢
    split
    · rw [lsum_append, lsum_cons]; simp [lsum] at ih ⊢; omega
    · simp; omega
theorem lineRows_len (L : List UInt8) : (lineRows L).length ≤ L.length + 2 := by
  have := softSt_le (pieces_le L) (pieces L).length
  rw [pieces_len] at this
  unfold lineRows softLines
  rw [pieces_len]
  simp; omega
theorem lineRows_sum (L : List UInt8) : lsum (lineRows L) ≤ 4 * L.length + 2 := by
  have := softSt_sum (pieces_le L) (pieces L).length
  rw [pieces_len] at this
  unfold lineRows softLines
  rw [pieces_len, lsum_append, lsum_append, lsum_cons, lsum_cons]
  simp [lsum] at this ⊢; omega
theorem rows_len : ∀ Ls : List (List UInt8), (Ls.flatMap lineRows).length ≤ lsum Ls + 2 * Ls.length ∧ lsum (Ls.flatMap lineRows) ≤ 4 * lsum Ls + 2 * Ls.length
  | [] => by simp [lsum]
  | L :: r => by
    have ih := rows_len r
    have h1 := lineRows_len L
    have h2 := lineRows_sum L
    rw [List.flatMap_cons, lsum_append, lsum_cons]
    simp only [List.length_append, List.length_cons]
    omega
theorem splitC_sum : ∀ (k : Nat) (l : List UInt8), l.length ≤ k → lsum (splitC l) ≤ l.length
  | _, [], _ => by simp [splitC, lsum]
  | _, [a], _ => by simp [splitC, lsum]
  | 0, a :: d :: r, h => by simp at h
  | k + 1, a :: d :: r, h => by
    by_cases q : a = 13 ∧ d = 10
    · rw [splitC_two q, lsum_cons]
      have := splitC_sum k r (by simp at h; omega)
      simp; omega
    · rw [splitC_one q]
      have := splitC_sum k (d :: r) (by simpa using h)
      cases e : splitC (d :: r) with
      | nil => simp [lsum]
      | cons y tl =>
        rw [e, lsum_cons] at this
        rw [lsum_cons]
        simp at this ⊢; omega
theorem textLines_le (o : List UInt8) (t : Bool) : (textLines o t).length ≤ o.length + 1 ∧ lsum (textLines o t) ≤ o.length := by
  unfold textLines
  cases t with
  | true => exact ⟨(splitC_le _ o (Nat.le_refl _)).1, splitC_sum _ o (Nat.le_refl _)⟩
  | false => simp [lsum]
theorem quoted_encoded_ok (S : Su C) (o : List UInt8) (t : Bool) (hz : o.length ≤ 1000) : CallR C (n + 3) (.ref 168) [.bytes o, .bool t] (.bytes (quotedEnc o t)) := by
  refine CallR.fn (params := ["octets", "is_text", "width"]) (dp := [.int 76]) (dv := [.int 76 411]) S.ok (S.K 168 _ rfl) rfl (codeRec_of S.K rfl) rfl rfl (fun s vs hl hk => ?_) (fun _ _ => .cons (.int 76 _) .nil) rfl (by decide) (by decide) (pk3 (.l rfl) (.l rfl) (.l rfl)) rfl rfl rfl (fun L => ?_) rfl
  · obtain ⟨v, u, rfl⟩ := vs2 hl
    exact binds_K (S.K.keeps hk) rfl rfl rfl rfl rfl
  · tm_at "lit"
    have hT := textLines_le o t
    have hR := rows_len (textLines o t)
    tm_at "go"
    · rename_i h
      exact absurd h (by decide)
    refine xs_forK (fun x => [("line", x)]) (fun i => [("lines", .own ((((textLines o t).take i).flatMap lineRows).map .bytes)), ("width", .int 76)]) (a := .lst ((textLines o t).map .bytes)) ?_ (fun _ => rfl) i_list (fun x hx => .name (stored_local rfl rfl)) ?_ (fun i x hx => ?_) ?_
    · tm_at "go"
      all_goals (try tm_at "side")
    · tm_at "go"
      all_goals rfl
    · obtain ⟨b, hb, rfl⟩ := bytes_at hx
      have hbl : b.length ≤ 1000 := by have := sum_mem (List.mem_of_getElem? hb); unfold lsum at hT; omega
      have hst : (textLines o t).take (i + 1) = (textLines o t).take i ++ [b] := by rw [List.take_add_one, hb]; rfl
      have hp := pieces_len b
      have hR' := rows_len ((textLines o t).take i)
      have h1 := lsum_take (textLines o t) i
      have h2 := List.length_take_le' i (textLines o t)
      have h3 := lineRows_len b
      unfold lineRows at h3
      simp only [List.length_append, List.length_cons, List.length_nil] at h3
      tm_at "go"
      all_goals (try tm_at "side")
      · exact pieces_le b
      · rw [hst, List.flatMap_append]
        simp [lineRows]
    · rw [List.length_map, List.take_length]
      have e : cut ((textLines o t).flatMap lineRows) none (some ((((textLines o t).flatMap lineRows).length : Int) - 1)) = ((textLines o t).flatMap lineRows).take (((textLines o t).flatMap lineRows).length - 1) := cut_pred
      have h1 := lsum_take ((textLines o t).flatMap lineRows) (((textLines o t).flatMap lineRows).length - 1)
      have h2 := List.length_take_le (((textLines o t).flatMap lineRows).length - 1) ((textLines o t).flatMap lineRows)
      unfold lsum at h1 hR hT
      tm_at "go"
      all_goals (try tm_at "side")
      · rw [e]; omega
      · rw [e]; omega
      · rw [e]; rfl
end
theorem sub_gen {α : Type} {σ : List (Str × α)} : ∀ {σ' : List (Str × α)}, (∀ q ∈ σ', σ.lookup q.1 = some q.2) → ∀ x p, σ'.lookup x = some p → σ.lookup x = some p
  | [], _, x, p, e => by simp at e
  | (y, q) :: r, h, x, p, e => by
    rw [List.lookup_cons] at e
    split at e
    · rename_i he
      cases e
      rw [beq_iff_eq.mp he]
      exact h (y, q) (.head _)
    · exact sub_gen (fun q hq => h q (.tail _ hq)) x p e
noncomputable def CapOk (σ : Loc) (scope : Scope) (cl : List (Str × Addr)) (env : Env) (x : Str) (p : PV) : Prop := σ.lookup x = some p ∧ p.isOwn = false ∧ env.kindOf x = some .cell ∧ (relabel scope env).names.lookup x = some .cell ∧ cl.lookup x = env.cells.lookup x
theorem Captured.nil {σ : Loc} {scope : Scope} {cl : List (Str × Addr)} {env : Env} : Captured σ scope cl env [] := fun x p h => by simp at h
theorem Captured.cons {σ σf : Loc} {scope : Scope} {cl : List (Str × Addr)} {env : Env} {x : Str} {p : PV} (h : CapOk σ scope cl env x p) (k : Captured σ scope cl env σf) : Captured σ scope cl env ((x, p) :: σf) := fun y q e => by
  rw [List.lookup_cons] at e
  split at e
  · rename_i he
    cases e
    rw [beq_iff_eq.mp he]
    exact h
  · exact k y q e
section
variable {C : Cx} {n : Nat}
noncomputable def total (o : List UInt8) : Nat := o.foldl (fun t c => 256 * t + c.toNat) 0
theorem total_snoc (o : List UInt8) (c : UInt8) : total (o ++ [c]) = 256 * total o + c.toNat := by unfold total; rw [List.foldl_append]; rfl
theorem total_lt : ∀ (o : List UInt8), total o < 256 ^ o.length := by
  have key : ∀ (o : List UInt8) (t : Nat), o.foldl (fun t c => 256 * t + c.toNat) t < (t + 1) * 256 ^ o.length := by
    intro o
    induction o with
    | nil => intro t; simp
    | cons c r ih =>
      intro t
      have h := ih (256 * t + c.toNat)
      have hc := c.toNat_lt
      rw [List.foldl_cons, List.length_cons, Nat.pow_succ]
      refine Nat.lt_of_lt_of_le h ?_
      rw [Nat.mul_comm (256 ^ r.length) 256, ← Nat.mul_assoc]
      exact Nat.mul_le_mul_right _ (by omega)
  intro o
  have := key o 0
  simpa [total] using this
/-- the sign at a place -/
noncomputable def signAt (T p : Nat) : UInt8 := signs.getD (T / 2 ^ (6 * p) &&& 63) 0
noncomputable def shifted (o : List UInt8) : Nat := total o * 2 ^ (6 * (o.length + 1) - 8 * o.length)
noncomputable def groupCodes (o : List UInt8) : List UInt8 := (List.range (o.length + 1)).map fun i => signAt (shifted o) (o.length - i)
theorem range_down {a : Int} {k : Nat} (ha : a = k) (hk : k ≤ 3) : Builtin.Range.small a (-1) (-1) = true ∧ Builtin.Range.rangeSize a (-1) (-1) = ((k + 1 : Nat) : Int) := by
  subst ha
  obtain rfl | rfl | rfl | rfl : k = 0 ∨ k = 1 ∨ k = 2 ∨ k = 3 := by omega
  all_goals exact ⟨by decide, by decide⟩
theorem and63 (T k : Nat) : Builtin.bitAnd (Int.fdiv (T : Int) (2 ^ k)) 63 = ((T / 2 ^ k &&& 63 : Nat) : Int) := by
  have e : Int.fdiv (T : Int) (2 ^ k) = ((T / 2 ^ k : Nat) : Int) := by
    rw [show ((2 : Int) ^ k) = ((2 ^ k : Nat) : Int) by push_cast; rfl]
    exact fdivN _ _
  rw [e, bitAnd_pp (Int.natCast_nonneg _) (by omega)]
  rfl
theorem and63_lt (x : Nat) : x &&& 63 < 64 := Nat.lt_succ_of_le Nat.and_le_right
noncomputable def codeVal (T : Nat) : PV → PV
  | .int p => .int (signAt T p.toNat).toNat
  | _ => .none
theorem group_codes_ok (S : Su C) (o : List UInt8) (h3 : o.length ≤ 3) : CallR C (n + 1) (.ref 24) [.bytes o, .bytes signs] (.lst (intsOf (groupCodes o))) := by
  refine CallR.fn (params := ["octets", "alphabet"]) (dp := []) (dv := []) S.ok (S.K 24 _ rfl) rfl (codeRec_of S.K rfl) rfl rfl (fun s vs hl _ => bind2 hl fun _ _ => rfl) (fun _ _ => .nil) rfl (by decide) (by decide) (pk2 (.l rfl) (.c rfl fun _ => rfl)) rfl rfl rfl (fun L => ?_) rfl
  tm_at "lit"
  tm_at "go"
  refine xs_forK (fun x => [("code", x)]) (fun i => [("total", .int (total (o.take i))), ("octets", .bytes o), ("alphabet", .bytes signs)]) (a := .bytes o) ?_ (fun _ => rfl) i_bytes (fun x hx => .name (stored_local rfl rfl)) ?_ (fun i x hx => ?_) ?_
  · tm_at "go"
  · tm_at "go"
    all_goals rfl
  · obtain ⟨c, hc, rfl⟩ := ints_at hx
    have hst : o.take (i + 1) = o.take i ++ [c] := by rw [List.take_add_one, hc]; rfl
    tm_at "go"
    all_goals (try tm_at "side")
    rw [hst, total_snoc]
    push_cast
    rfl
  · have e0 : (intsOf o).length = o.length := by simp [intsOf]
    rw [e0, List.take_length]
    have hlt := total_lt o
    tm_at "go"
    all_goals (try tm_at "side")
    · have : 256 ^ o.length ≤ 256 ^ 3 := Nat.pow_le_pow_right (by omega) h3
      have : (256 : Nat) ^ 3 < 2 ^ 64 := by decide
      omega
    · refine EvE.weaken (σ' := [("alphabet", .bytes signs), ("total", .int (shifted o)), ("count", .int ((o.length + 1 : Nat) : Int))]) ?_ (Knows.all ?_)
      · refine EvE.conv (EvE.comp (σf := [("alphabet", .bytes signs), ("total", .int (shifted o))]) (fun x => [("place", x)]) (fun _ => true) (codeVal (shifted o)) (a := .rng o.length (o.length + 1) (-1)) ?_ i_rng rfl (by decide) rfl (by decide) ?_ ?_ (fun Cf x hx => .name (stored_local rfl rfl)) (.inl ⟨rfl, fun _ _ => rfl⟩) (fun Cf x hx _ => ?_) ?_ (fun _ => rfl) ?_) ?_
        · tm_at "go"
          have e : ((o.length + 1 : Nat) : Int) - 1 = o.length := by omega
          rw [e]
          exact c_range3 (by decide) (by decide) (range_down rfl h3).1 (range_down rfl h3).2
        · refine .cons ⟨rfl, rfl, rfl, rfl, rfl⟩ (.cons ⟨rfl, rfl, rfl, rfl, rfl⟩ .nil)
        · refine sub_gen fun q hq => ?_
          rcases List.mem_cons.mp hq with rfl | hq
          · rfl
          · rcases List.mem_cons.mp hq with rfl | hq
            · rfl
            · cases hq
        · obtain ⟨i, hi⟩ := List.mem_iff_getElem?.mp hx
          obtain ⟨hi, rfl⟩ := rng_at hi
          have e : (o.length : Int) + (i : Int) * (-1) = ((o.length - i : Nat) : Int) := by omega
          rw [e]
          refine ⟨EvE.conv (p := .int ((signs.getD (Builtin.bitAnd (Int.fdiv ((shifted o : Nat) : Int) (2 ^ (6 * ((o.length - i : Nat) : Int)).toNat)) 63).toNat 0).toNat : Int)) ?_ ?_, rfl⟩
          · tm_at "go"
            all_goals (try tm_at "side")
            all_goals rw [and63]
            all_goals have := and63_lt (shifted o / 2 ^ (6 * ((o.length - i : Nat) : Int)).toNat)
            · omega
            · have hs : signs.length = 64 := rfl
              omega
          · rw [and63, Int.toNat_natCast, show (6 * ((o.length - i : Nat) : Int)).toNat = 6 * (o.length - i) by omega]
            rfl
        · rw [rng_len]; omega
        · intro x _ y p h
          refine Knows.all (τ := ([("place", x)] : Loc) ++ ([("alphabet", .bytes signs), ("total", .int (shifted o))] : Loc)) ?_ y p h
          tm_at "go"
          all_goals rfl
        · refine congrArg PV.lst ?_
          unfold rngInts groupCodes intsOf
          rw [List.filter_eq_self.mpr (fun _ _ => rfl), List.map_map, List.map_map]
          apply List.map_congr_left
          intro i hi
          have hi' : i < o.length + 1 := List.mem_range.mp hi
          show codeVal (shifted o) (.int ((o.length : Int) + (i : Int) * (-1))) = _
          have e : (o.length : Int) + (i : Int) * (-1) = ((o.length - i : Nat) : Int) := by omega
          rw [e]
          rfl
      · tm_at "go"
        all_goals (try tm_at "side")
        refine congrArg PV.int ?_
        unfold shifted
        rw [show (6 * ((o.length : Int) + 1) - 8 * (o.length : Int)).toNat = 6 * (o.length + 1) - 8 * o.length by omega]
        · push_cast
          rfl
        · refine congrArg PV.int ?_
          push_cast
          rfl
    · rfl
set_option hygiene false in
local macro_rules | `(tactic| tm_at "calls") => `(tactic| with_reducible first | refine' group_codes_ok S _ ?_)
noncomputable def chunk (w : Nat) (o : List UInt8) (i : Nat) : List UInt8 := (o.drop (w * i)).take w
noncomputable def chunks (w : Nat) (o : List UInt8) : List (List UInt8) := (List.range ((o.length + (w - 1)) / w)).map (chunk w o)
noncomputable def partEnc (o : List UInt8) : List UInt8 := ((chunks 3 o).map groupCodes).flatten
theorem range_up {w k : Nat} (hw : 1 ≤ w) (hw2 : w ≤ 1000) (hk : k ≤ 1000000) : Builtin.Range.small 0 (k : Int) (w : Int) = true ∧ Builtin.Range.rangeSize 0 (k : Int) (w : Int) = (((k + (w - 1)) / w : Nat) : Int) := by
  have h2 : Builtin.Range.rangeSize 0 (k : Int) (w : Int) = (((k + (w - 1)) / w : Nat) : Int) := by
    unfold Builtin.Range.rangeSize
    rw [if_pos (by omega)]
    by_cases h : 0 < k
    · rw [if_pos (by omega)]
      have e : ((k : Int) - 0 - 1) / (w : Int) + 1 = (((k - 1) / w + 1 : Nat) : Int) := by
        push_cast
        rw [show ((k : Int) - 0 - 1) = ((k - 1 : Nat) : Int) by omega]
      rw [e, ← Nat.add_div_right _ (by omega : 0 < w)]
      congr 2
      omega
    · rw [if_neg (by omega)]
      have : k = 0 := by omega
      subst this
      rw [Nat.zero_add, Nat.div_eq_of_lt (by omega)]
      rfl
  refine ⟨?_, h2⟩
  have hq : (k + (w - 1)) / w ≤ k + (w - 1) := Nat.div_le_self _ _
  unfold Builtin.Range.small Builtin.Range.rangeFitsLong
  rw [h2, if_pos (by omega)]
  clear h2
  generalize (k + (w - 1)) / w = q at hq ⊢
  simp only [Bool.and_eq_true, Bool.or_eq_true, decide_eq_true_eq]
  omega
theorem own_snocs {f : Nat → List UInt8} {i : Nat} {y : List UInt8} (h : y = f i) : PV.own (intsOf ((List.range i).map f).flatten ++ intsOf y) = PV.own (intsOf ((List.range (i + 1)).map f).flatten) := by
  rw [List.range_succ, List.map_append, List.flatten_append, h]
  simp [intsOf]
theorem groupCodes_len (o : List UInt8) : (groupCodes o).length = o.length + 1 := by simp [groupCodes]
theorem chunk_len (w : Nat) (o : List UInt8) (i : Nat) : (chunk w o i).length ≤ w := by
  unfold chunk
  rw [List.length_take]; omega
theorem part_len (o : List UInt8) : ∀ i, (((List.range i).map fun i => groupCodes (chunk 3 o i)).flatten).length ≤ 4 * i
  | 0 => by simp
  | i + 1 => by
    have ih := part_len o i
    have h1 := chunk_len 3 o i
    rw [List.range_succ, List.map_append, List.flatten_append, List.length_append]
    simp only [List.map_cons, List.map_nil, List.flatten_cons, List.flatten_nil, List.append_nil, groupCodes_len]
    omega
theorem part_encoded_ok (S : Su C) (o : List UInt8) (hz : o.length ≤ 1000) : CallR C (n + 2) (.ref 36) [.bytes o, .bytes signs] (.bytes (partEnc o)) := by
  refine CallR.fn (params := ["octets", "alphabet"]) (dp := []) (dv := []) S.ok (S.K 36 _ rfl) rfl (codeRec_of S.K rfl) rfl rfl (fun s vs hl _ => bind2 hl fun _ _ => rfl) (fun _ _ => .nil) rfl (by decide) (by decide) (pk2 (.l rfl) (.l rfl)) rfl rfl rfl (fun L => ?_) rfl
  tm_at "lit"
  tm_at "go"
  refine xs_forK (fun x => [("begin", x)]) (fun i => [("codes", .own (intsOf ((List.range i).map fun i => groupCodes (chunk 3 o i)).flatten)), ("octets", .bytes o), ("alphabet", .bytes signs)]) (a := .rng 0 ((o.length + 2) / 3) 3) ?_ (fun _ => rfl) i_rng (fun x hx => .name (stored_local rfl rfl)) ?_ (fun i x hx => ?_) ?_
  · tm_at "go"
    all_goals (try tm_at "side")
    exact c_range3 (by decide) (by decide) (range_up (by decide) (by decide) (by omega)).1 (range_up (w := 3) (by decide) (by decide) (by omega)).2
  · tm_at "go"
    all_goals rfl
  · obtain ⟨hi, rfl⟩ := rng_at hx
    have hl := part_len o i
    have hc : cut o (some (0 + (i : Int) * 3)) (some (0 + (i : Int) * 3 + 3)) = chunk 3 o i := by
      rw [cutNN (a := 3 * i) (b := 3 * i + 3) (by omega) (by omega), show 3 * i + 3 - 3 * i = 3 by omega]; rfl
    have h3 := chunk_len 3 o i
    have h4 := groupCodes_len (chunk 3 o i)
    tm_at "go"
    all_goals (try tm_at "side")
    · rw [hc]; exact h3
    · rw [hc]; simp only [intsOf, List.length_map]; omega
    · rw [hc]
      exact own_snocs (f := fun i => groupCodes (chunk 3 o i)) rfl
  · rw [rng_len]
    have hl := part_len o ((o.length + 2) / 3)
    refine xs_ret (p := .bytes (partEnc o)) ?_ rfl rfl
    tm_at "go"
    have e : ((List.range ((o.length + 2) / 3)).map fun i => groupCodes (chunk 3 o i)).flatten = partEnc o := by
      unfold partEnc chunks
      rw [List.map_map]
      rfl
    rw [e] at hl ⊢
    exact c_bytes (l := partEnc o) rfl (by omega)

noncomputable def oneLine (o : List UInt8) : List UInt8 := partEnc o ++ List.replicate ((3 - o.length % 3) % 3) 61
theorem partEnc_len (o : List UInt8) : (partEnc o).length ≤ 4 * ((o.length + 2) / 3) := by
  have := part_len o ((o.length + 2) / 3)
  unfold partEnc chunks
  rw [List.map_map]
  exact this
theorem fmod_neg (k : Nat) : Int.fmod (-(k : Int)) 3 = (((3 - k % 3) % 3 : Nat) : Int) := by
  rw [Int.fmod_eq_emod_of_nonneg _ (by omega)]
  omega
set_option hygiene false in
local macro_rules | `(tactic| tm_at "calls") => `(tactic| with_reducible first | refine' part_encoded_ok S _ ?_)
theorem one_line_ok (S : Su C) (o : List UInt8) (hz : o.length ≤ 1000) : CallR C (n + 3) (.ref 43) [.bytes o] (.bytes (oneLine o)) := by
  refine CallR.fn (params := ["octets"]) (dp := []) (dv := []) S.ok (S.K 43 _ rfl) rfl (codeRec_of S.K rfl) rfl rfl (fun s vs hl _ => bind1 hl fun _ => rfl) (fun _ _ => .nil) rfl (by decide) (by decide) (pk1 (.l rfl)) rfl rfl rfl (fun L => ?_) rfl
  tm_at "lit"
  have hl := partEnc_len o
  refine xs_ret (p := .bytes (oneLine o)) ?_ rfl rfl
  refine EvE.binop (a := .bytes (partEnc o)) (b := .bytes (List.replicate ((3 - o.length % 3) % 3) 61)) ?_ ?_ (o_addB (by rw [List.length_replicate]; omega))
  · tm_at "go"
    all_goals (try tm_at "side")
  · refine EvE.call (ps := [.lst (List.replicate ((3 - o.length % 3) % 3) (.int 61))]) ?_ KeepOf.type (.cons ?_ .nil fun _ => rfl) (c_bytes (l := List.replicate ((3 - o.length % 3) % 3) 61) (congrArg some (by simp [intsOf])) (by rw [List.length_replicate]; omega))
    · tm_at "go"
    · refine EvE.conv (p := .lst (List.replicate (Int.fmod (-(o.length : Int)) 3).toNat [PV.int 61]).flatten) (EvE.binop (a := .lst [.int 61]) (b := .int (Int.fmod (-(o.length : Int)) 3)) ?_ ?_ (o_mulL rfl ?_ ?_ ?_)) ?_
      · tm_at "go"
      · tm_at "go"
        all_goals (try tm_at "side")
      · rw [fmod_neg]; omega
      · rw [fmod_neg]; simp; omega
      · rw [fmod_neg]; omega
      · rw [fmod_neg, Int.toNat_natCast, mulL]

noncomputable def inLines (l : List UInt8) : List UInt8 := ([13, 10] : List UInt8).intercalate (chunks 76 l)
theorem chunks_len (w : Nat) (l : List UInt8) : (chunks w l).length = (l.length + (w - 1)) / w := by simp [chunks]
theorem chunks_sum (w : Nat) (l : List UInt8) : ((chunks w l).map List.length).sum ≤ w * ((l.length + (w - 1)) / w) := by
  have key : ∀ k : Nat, (((List.range k).map (chunk w l)).map List.length).sum ≤ w * k := by
    intro k
    induction k with
    | zero => simp
    | succ k ih =>
      have := chunk_len w l k
      rw [List.range_succ, List.map_append, List.map_append, List.sum_append, Nat.mul_succ]
      simp only [List.map_cons, List.map_nil, List.sum_cons, List.sum_nil]
      omega
  exact key _
noncomputable def chunkPV (l : List UInt8) : PV → PV
  | .int b => .bytes ((l.drop b.toNat).take 76)
  | _ => .none
theorem in_lines_ok (S : Su C) (l : List UInt8) (hz : l.length ≤ 10000) : CallR C (n + 1) (.ref 48) [.bytes l, .int 76] (.bytes (inLines l)) := by
  refine CallR.fn (params := ["line", "width"]) (dp := []) (dv := []) S.ok (S.K 48 _ rfl) rfl (codeRec_of S.K rfl) rfl rfl (fun s vs hl _ => bind2 hl fun _ _ => rfl) (fun _ _ => .nil) rfl (by decide) (by decide) (pk2 (.c rfl fun _ => rfl) (.c rfl fun _ => rfl)) rfl rfl rfl (fun L => ?_) rfl
  tm_at "lit"
  have h1 := chunks_len 76 l
  have h2 := chunks_sum 76 l
  refine xs_if (b := decide ((76 : Int) < 1)) ?_ (fun h => absurd h (by decide)) (fun _ => ?_)
  · tm_at "go"
  refine xs_nil (xs_ret (p := .bytes (inLines l)) ?_ rfl rfl)
  refine EvE.meth (a := .bytes [13, 10]) (ps := [.lst ((chunks 76 l).map .bytes)]) ?_ m_join (.cons ?_ .nil fun _ => rfl) (c_joinL (by simp only [List.length_cons, List.length_nil]; omega)) rfl
  · tm_at "go"
  · refine EvE.conv (EvE.comp (σf := [("line", .bytes l), ("width", .int 76)]) (fun x => [("begin", x)]) (fun _ => true) (chunkPV l) (a := .rng 0 ((l.length + 75) / 76) 76) ?_ i_rng rfl (by decide) rfl (by decide) ?_ ?_ (fun Cf x hx => .name (stored_local rfl rfl)) (.inl ⟨rfl, fun _ _ => rfl⟩) (fun Cf x hx _ => ?_) ?_ (fun _ => rfl) ?_) ?_
    · tm_at "go"
      all_goals (try tm_at "side")
      exact c_range3 (by decide) (by decide) (range_up (by decide) (by decide) (by omega)).1 (range_up (w := 76) (by decide) (by decide) (by omega)).2
    · exact .cons ⟨rfl, rfl, rfl, rfl, rfl⟩ (.cons ⟨rfl, rfl, rfl, rfl, rfl⟩ .nil)
    · refine sub_gen fun q hq => ?_
      rcases List.mem_cons.mp hq with rfl | hq
      · rfl
      · rcases List.mem_cons.mp hq with rfl | hq
        · rfl
        · cases hq
    · obtain ⟨i, hi⟩ := List.mem_iff_getElem?.mp hx
      obtain ⟨hi, rfl⟩ := rng_at hi
      refine ⟨EvE.conv (p := .bytes (cut l (some (0 + (i : Int) * 76)) (some (0 + (i : Int) * 76 + 76)))) ?_ ?_, rfl⟩
      · tm_at "go"
        all_goals (try tm_at "side")
      · rw [cutNN (a := 76 * i) (b := 76 * i + 76) (by omega) (by omega), show 76 * i + 76 - 76 * i = 76 by omega]
        show PV.bytes _ = PV.bytes ((l.drop (0 + (i : Int) * 76).toNat).take 76)
        rw [show (0 + (i : Int) * 76).toNat = 76 * i by omega]
    · rw [rng_len]; omega
    · intro x _ y p h
      refine Knows.all (τ := ([("begin", x)] : Loc) ++ ([("line", .bytes l), ("width", .int 76)] : Loc)) ?_ y p h
      tm_at "go"
      all_goals rfl
    · refine congrArg PV.lst ?_
      unfold rngInts chunks
      rw [List.filter_eq_self.mpr (fun _ _ => rfl), List.map_map, List.map_map]
      apply List.map_congr_left
      intro i hi
      show PV.bytes ((l.drop (0 + (i : Int) * 76).toNat).take 76) = PV.bytes ((l.drop (76 * i)).take 76)
      rw [show (0 + (i : Int) * 76).toNat = 76 * i by omega]

noncomputable def b64 (o : List UInt8) : List UInt8 := inLines (oneLine o)
theorem oneLine_len (o : List UInt8) : (oneLine o).length ≤ 4 * ((o.length + 2) / 3) + 2 := by
  have := partEnc_len o
  unfold oneLine
  rw [List.length_append, List.length_replicate]; omega
set_option hygiene false in
local macro_rules | `(tactic| tm_at "calls") => `(tactic| with_reducible first | refine' one_line_ok S _ ?_ | refine' in_lines_ok S _ ?_)
theorem encoded_ok (S : Su C) (o : List UInt8) (hz : o.length ≤ 1000) : CallR C (n + 4) (.ref 56) [.bytes o] (.bytes (b64 o)) := by
  refine CallR.fn (params := ["octets", "width"]) (dp := [.int 76]) (dv := [.int 76 236]) S.ok (S.K 56 _ rfl) rfl (codeRec_of S.K rfl) rfl rfl (fun s vs hl hk => ?_) (fun _ _ => .cons (.int 76 _) .nil) rfl (by decide) (by decide) (pk2 (.l rfl) (.l rfl)) rfl rfl rfl (fun L => ?_) rfl
  · obtain ⟨v, rfl⟩ := vs1 hl
    exact binds_K (S.K.keeps hk) rfl rfl rfl rfl rfl
  · tm_at "lit"
    have := oneLine_len o
    tm_at "go"
    all_goals (try tm_at "side")
    rfl

set_option hygiene false in
local macro_rules | `(tactic| tm_at "calls") => `(tactic| with_reducible first | refine' encoded_ok S _ ?_ | refine' quoted_encoded_ok S _ _ ?_)
theorem in_encoding_b (S : Su C) (o : List UInt8) (t : Bool) (hz : o.length ≤ 1000) : CallR C (n + 5) (.ref 208) [.str "base64", .bytes o, .bool t] (.bytes (b64 o)) := by
  refine CallR.fn (params := ["encoding", "octets", "is_text"]) (dp := []) (dv := []) S.ok (S.K 208 _ rfl) rfl (codeRec_of S.K rfl) rfl rfl (fun s vs hl _ => bind3 hl fun _ _ _ => rfl) (fun _ _ => .nil) rfl (by decide) (by decide) (pk3 (.l rfl) (.l rfl) (.l rfl)) rfl rfl rfl (fun L => ?_) rfl
  tm_at "lit"
  refine xs_if (b := (("base64" : Str) == "base64")) ?_ (fun _ => ?_) (fun h => absurd h (by decide))
  · tm_at "go"
  · tm_at "go"
    all_goals (try tm_at "side")
theorem in_encoding_q (S : Su C) (o : List UInt8) (t : Bool) (hz : o.length ≤ 1000) : CallR C (n + 5) (.ref 208) [.str "quoted-printable", .bytes o, .bool t] (.bytes (quotedEnc o t)) := by
  refine CallR.fn (params := ["encoding", "octets", "is_text"]) (dp := []) (dv := []) S.ok (S.K 208 _ rfl) rfl (codeRec_of S.K rfl) rfl rfl (fun s vs hl _ => bind3 hl fun _ _ _ => rfl) (fun _ _ => .nil) rfl (by decide) (by decide) (pk3 (.l rfl) (.l rfl) (.l rfl)) rfl rfl rfl (fun L => ?_) rfl
  tm_at "lit"
  refine xs_if (b := (("quoted-printable" : Str) == "base64")) ?_ (fun h => absurd h (by decide)) (fun _ => ?_)
  · tm_at "go"
  · refine xs_nil (xs_ret (p := .bytes (quotedEnc o t)) (EvE.ite (b := (("quoted-printable" : Str) == "quoted-printable")) ?_ (fun _ => ?_) (fun h => absurd h (by decide))) rfl rfl)
    · tm_at "go"
    · tm_at "go"
      all_goals (try tm_at "side")
end
section
variable {C : Cx} {n : Nat}
/-! the table of worths -/
noncomputable def signPairs : List (Int × Int) := (List.range 64).map fun i => (((signs.getD i 0).toNat : Int), (i : Int))
noncomputable def signPV : PV → PV
  | .int i => .tup [.int (signs.getD i.toNat 0).toNat, .int i]
  | _ => .none
theorem worth_table_ok (S : Su C) : CallR C (n + 1) (.ref 19) [.bytes signs] (.tab (tabF signPairs)) := by
  refine CallR.fn (params := ["alphabet"]) (dp := []) (dv := []) S.ok (S.K 19 _ rfl) rfl (codeRec_of S.K rfl) rfl rfl (fun s vs hl _ => bind1 hl fun _ => rfl) (fun _ _ => .nil) rfl (by decide) (by decide) (pk1 (.c rfl fun _ => rfl)) rfl rfl rfl (fun L => ?_) rfl
  tm_at "lit"
  refine xs_ret (p := .tab (tabF signPairs)) ?_ rfl rfl
  refine EvE.call (ps := [.lst (signPairs.map pairPV)]) ?_ KeepOf.type (.cons ?_ .nil fun _ => rfl) (c_dict ⟨19, _, by decide, S.K 19 _ rfl⟩ (by decide +kernel) (by decide))
  · tm_at "go"
  · refine EvE.conv (EvE.comp (σf := [("alphabet", .bytes signs)]) (fun x => [("number", x)]) (fun _ => true) signPV (a := .rng 0 64 1) ?_ i_rng rfl (by decide) rfl (by decide) ?_ ?_ (fun Cf x hx => .name (stored_local rfl rfl)) (.inl ⟨rfl, fun _ _ => rfl⟩) (fun Cf x hx _ => ?_) ?_ (fun _ => rfl) ?_) ?_
    · tm_at "go"
      all_goals (try tm_at "side")
      exact c_range1 rfl (by decide)
    · exact .cons ⟨rfl, rfl, rfl, rfl, rfl⟩ .nil
    · refine sub_gen fun q hq => ?_
      rcases List.mem_cons.mp hq with rfl | hq
      · rfl
      · cases hq
    · obtain ⟨i, hi⟩ := List.mem_iff_getElem?.mp hx
      obtain ⟨hi, rfl⟩ := rng_at0 hi
      refine ⟨EvE.conv (p := .tup [.int (signs.getD ((i : Int)).toNat 0).toNat, .int i]) ?_ rfl, rfl⟩
      have hs : signs.length = 64 := rfl
      tm_at "go"
      all_goals (try tm_at "side")
    · rw [rng_len]; omega
    · intro x _ y p h
      refine Knows.all (τ := ([("number", x)] : Loc) ++ ([("alphabet", .bytes signs)] : Loc)) ?_ y p h
      tm_at "go"
      all_goals rfl
    · refine congrArg PV.lst ?_
      unfold rngInts signPairs
      rw [List.filter_eq_self.mpr (fun _ _ => rfl), List.map_map, List.map_map]
      apply List.map_congr_left
      intro i hi
      show signPV (.int (0 + (i : Int) * 1)) = _
      rw [show (0 + (i : Int) * 1) = (i : Int) by omega]
      rfl
noncomputable def sixOf (c : UInt8) : Option Nat := signs.idxOf? c
theorem sixOf_all : ∀ k : Nat, k < 256 → tabF signPairs (k : Int) = (sixOf k.toUInt8).map (fun (i : Nat) => (i : Int)) := by decide +kernel
theorem tab_six (c : UInt8) : tabF signPairs (c.toNat : Int) = (sixOf c).map (fun (i : Nat) => (i : Int)) := by
  have := sixOf_all c.toNat c.toNat_lt
  rw [this]
  congr 2
  simp

/-! groups of octets -/
noncomputable def natsPV (ws : List Nat) : List PV := ws.map fun (w : Nat) => .int (w : Int)
theorem nats_at {ws : List Nat} {i : Nat} {x : PV} (h : (natsPV ws)[i]? = some x) : ∃ c, ws[i]? = some c ∧ x = .int (c : Int) := by
  unfold natsPV at h
  rw [List.getElem?_map] at h
  obtain ⟨j, hj, rfl⟩ := Option.map_eq_some_iff.mp h
  exact ⟨j, hj, rfl⟩
theorem nats_len (ws : List Nat) : (natsPV ws).length = ws.length := by simp [natsPV]
theorem c_lenN {ws : List Nat} (hz : ws.length ≤ 16777216) : CallR C n (.builtin "len") [.lst (natsPV ws)] (.int ws.length) :=
  (c_lenL (l := natsPV ws) rfl (by rw [nats_len]; exact hz)).conv (by rw [nats_len])
theorem c_lenON {ws : List Nat} (hz : ws.length ≤ 16777216) : CallR C n (.builtin "len") [.own (natsPV ws)] (.int ws.length) :=
  (c_lenL (l := natsPV ws) rfl (by rw [nats_len]; exact hz)).conv (by rw [nats_len])
theorem g_cutON {ws : List Nat} {lo hi : Option Int} (hz : ws.length ≤ 16777216) : Op2 C n getItem (.own (natsPV ws)) (.slc lo hi) (.lst (natsPV (cut ws lo hi))) := by
  refine (g_cutL (l := natsPV ws) rfl (by rw [nats_len]; exact hz)).conv ?_
  unfold cut natsPV
  simp
theorem g_tup0 {x : PV} {r : List PV} (hz : r.length ≤ 1000) : Op2 C n getItem (.tup (x :: r)) (.int 0) x := g_tup (by decide) rfl (by simp; omega)
noncomputable def sixTotal (ws : List Nat) : Nat := ws.foldl (fun t w => 64 * t + w) 0
theorem sixTotal_snoc (ws : List Nat) (w : Nat) : sixTotal (ws ++ [w]) = 64 * sixTotal ws + w := by unfold sixTotal; rw [List.foldl_append]; rfl
noncomputable def spareOf (ws : List Nat) : Nat := 6 * ws.length - 8 * (ws.length - 1)
noncomputable def wholeOf (ws : List Nat) : Nat := sixTotal ws / 2 ^ spareOf ws
noncomputable def octetAt (T p : Nat) : UInt8 := (T / 2 ^ (8 * p) &&& 255).toUInt8
noncomputable def groupOctets (ws : List Nat) : List UInt8 := (List.range (ws.length - 1)).map fun i => octetAt (wholeOf ws) (ws.length - 1 - 1 - i)
noncomputable def restOf (ws : List Nat) : Int := Builtin.bitAnd (sixTotal ws) (1 * 2 ^ (spareOf ws) - 1)
noncomputable def octVal (T : Nat) : PV → PV
  | .int p => .int (octetAt T p.toNat).toNat
  | _ => .none
theorem and255 (T k : Nat) : Builtin.bitAnd (Int.fdiv (T : Int) (2 ^ k)) 255 = ((T / 2 ^ k &&& 255 : Nat) : Int) := by
  have e : Int.fdiv (T : Int) (2 ^ k) = ((T / 2 ^ k : Nat) : Int) := by
    rw [show ((2 : Int) ^ k) = ((2 ^ k : Nat) : Int) by push_cast; rfl]
    exact fdivN _ _
  rw [e, bitAnd_pp (Int.natCast_nonneg _) (by omega)]
  rfl
theorem octet_nat (x : Nat) : ((x &&& 255).toUInt8.toNat) = x &&& 255 := by
  have : x &&& 255 ≤ 255 := Nat.and_le_right
  show (x &&& 255) % 256 = x &&& 255
  exact Nat.mod_eq_of_lt (by omega)
set_option hygiene false in
local macro_rules | `(tactic| tm_at "calls") => `(tactic| with_reducible first | refine' c_lenN ?_ | refine' c_lenON ?_ | exact worth_table_ok S)
local macro_rules | `(tactic| tm_at "op") => `(tactic| with_reducible first | refine' g_cutON ?_ | refine' g_tup0 ?_ | exact o_inTab)
theorem group_octets_ok (S : Su C) (ws : List Nat) (h1 : 2 ≤ ws.length) (h2 : ws.length ≤ 4) : CallR C (n + 1) (.ref 29) [.lst (natsPV ws)] (.tup [.bytes (groupOctets ws), .int (restOf ws)]) := by
  refine CallR.fn (params := ["worth_row"]) (dp := []) (dv := []) S.ok (S.K 29 _ rfl) rfl (codeRec_of S.K rfl) rfl rfl (fun s vs hl _ => bind1 hl fun _ => rfl) (fun _ _ => .nil) rfl (by decide) (by decide) (pk1 (.l rfl)) rfl rfl rfl (fun L => ?_) rfl
  tm_at "lit"
  tm_at "go"
  refine xs_forK (fun x => [("number", x)]) (fun i => [("total", .int (sixTotal (ws.take i))), ("worth_row", .lst (natsPV ws))]) (a := .lst (natsPV ws)) ?_ (fun _ => rfl) i_list (fun x hx => .name (stored_local rfl rfl)) ?_ (fun i x hx => ?_) ?_
  · tm_at "go"
  · tm_at "go"
    all_goals rfl
  · obtain ⟨c, hc, rfl⟩ := nats_at hx
    have hst : ws.take (i + 1) = ws.take i ++ [c] := by rw [List.take_add_one, hc]; rfl
    tm_at "go"
    all_goals (try tm_at "side")
    rw [hst, sixTotal_snoc]
    push_cast
    rfl
  · rw [nats_len, List.take_length]
    have hsp : (6 * (ws.length : Int) - 8 * ((ws.length : Int) - 1)) = ((spareOf ws : Nat) : Int) := by unfold spareOf; omega
    refine xs_assign (p := .int ((ws.length : Int) - 1)) ?_ rfl (stored_local rfl rfl) rfl ?_
    · tm_at "go"
      all_goals (try tm_at "side")
    refine xs_assign (p := .int ((spareOf ws : Nat) : Int)) (EvE.conv (p := .int (6 * (ws.length : Int) - 8 * ((ws.length : Int) - 1))) ?_ (by rw [hsp])) rfl (stored_local rfl rfl) rfl ?_
    · tm_at "go"
      all_goals (try tm_at "side")
    refine xs_assign (p := .int ((wholeOf ws : Nat) : Int)) (EvE.binop (a := .int (sixTotal ws)) (b := .int (spareOf ws)) ?_ ?_ o_shrN) rfl (stored_cell rfl rfl rfl rfl) rfl ?_
    · tm_at "go"
    · tm_at "go"
    refine xs_ret (p := .tup [.bytes (groupOctets ws), .int (restOf ws)]) (e_tuple (.cons ?_ (.cons ?_ .nil fun _ => rfl) fun _ => rfl) rfl) rfl rfl
    · refine EvE.call (ps := [.lst (intsOf (groupOctets ws))]) ?_ KeepOf.type (.cons ?_ .nil fun _ => rfl) (c_bytes (l := groupOctets ws) rfl (by unfold groupOctets; rw [List.length_map, List.length_range]; omega))
      · tm_at "go"
      · refine EvE.conv (EvE.comp (σf := [("whole", .int (wholeOf ws))]) (fun x => [("place", x)]) (fun _ => true) (octVal (wholeOf ws)) (a := .rng (((ws.length - 1 - 1 : Nat) : Int)) (ws.length - 1 - 1 + 1) (-1)) ?_ i_rng rfl (by decide) rfl (by decide) ?_ ?_ (fun Cf x hx => .name (stored_local rfl rfl)) (.inl ⟨rfl, fun _ _ => rfl⟩) (fun Cf x hx _ => ?_) ?_ (fun _ => rfl) ?_) ?_
        · tm_at "go"
          have e : (ws.length : Int) - 1 - 1 = ((ws.length - 1 - 1 : Nat) : Int) := by omega
          rw [e]
          exact c_range3 (by decide) (by decide) (range_down rfl (by omega)).1 (range_down rfl (by omega)).2
        · exact .cons ⟨rfl, rfl, rfl, rfl, rfl⟩ .nil
        · refine sub_gen fun q hq => ?_
          rcases List.mem_cons.mp hq with rfl | hq
          · rfl
          · cases hq
        · obtain ⟨i, hi⟩ := List.mem_iff_getElem?.mp hx
          obtain ⟨hi, rfl⟩ := rng_at hi
          have e : (((ws.length - 1 - 1 : Nat) : Int)) + (i : Int) * (-1) = ((ws.length - 1 - 1 - i : Nat) : Int) := by omega
          rw [e]
          refine ⟨EvE.conv (p := .int (Builtin.bitAnd (Int.fdiv ((wholeOf ws : Nat) : Int) (2 ^ (8 * ((ws.length - 1 - 1 - i : Nat) : Int)).toNat)) 255)) ?_ ?_, rfl⟩
          · tm_at "go"
            all_goals (try tm_at "side")
          · rw [and255, show (8 * ((ws.length - 1 - 1 - i : Nat) : Int)).toNat = 8 * (ws.length - 1 - 1 - i) by omega, ← octet_nat]
            rfl
        · rw [rng_len]; omega
        · intro x _ y p h
          refine Knows.all (τ := ([("place", x)] : Loc) ++ ([("whole", .int (wholeOf ws))] : Loc)) ?_ y p h
          tm_at "go"
          all_goals rfl
        · refine congrArg PV.lst ?_
          unfold rngInts groupOctets intsOf
          rw [List.filter_eq_self.mpr (fun _ _ => rfl), List.map_map, List.map_map, show ws.length - 1 - 1 + 1 = ws.length - 1 by omega]
          apply List.map_congr_left
          intro i hi
          have hi' : i < ws.length - 1 := List.mem_range.mp hi
          show octVal (wholeOf ws) (.int (((ws.length - 1 - 1 : Nat) : Int) + (i : Int) * (-1))) = _
          have e : (((ws.length - 1 - 1 : Nat) : Int)) + (i : Int) * (-1) = ((ws.length - 1 - 1 - i : Nat) : Int) := by omega
          rw [e]
          rfl
    · refine EvE.conv (p := .int (Builtin.bitAnd (sixTotal ws) (1 * 2 ^ ((spareOf ws : Nat) : Int).toNat - 1))) ?_ rfl
      tm_at "go"
      all_goals (try tm_at "side")

/-! decoded -/
theorem takeWhile_at {d : List UInt8} : ∀ {i : Nat}, (61 : UInt8) ∉ d.take i → d[i]? = some 61 → d.takeWhile (· != 61) = d.take i := by
  induction d with
  | nil => intro i _ h; simp at h
  | cons a r ih =>
    intro i hn h
    cases i with
    | zero => simp at h; subst h; rfl
    | succ i =>
      simp only [List.take_succ_cons, List.mem_cons, not_or] at hn
      rw [List.takeWhile_cons, if_pos (by simp; exact fun e => hn.1 e.symm), List.take_succ_cons, ih hn.2 (by simpa using h)]
theorem takeWhile_all {d : List UInt8} : (61 : UInt8) ∉ d → d.takeWhile (· != 61) = d := by
  induction d with
  | nil => intro _; rfl
  | cons a r ih =>
    intro hn
    simp only [List.mem_cons, not_or] at hn
    rw [List.takeWhile_cons, if_pos (by simp; exact fun e => hn.1 e.symm), ih hn.2]
noncomputable def sixes (l : List UInt8) : List Nat := l.filterMap sixOf
noncomputable def worthRow (d : List UInt8) : List Nat := sixes (d.takeWhile (· != 61))
noncomputable def decGroups (row : List Nat) : List (List UInt8) := ((List.range ((row.length + 3) / 4)).filter fun i => decide (4 * i + 1 < row.length)).map fun i => groupOctets ((row.drop (4 * i)).take 4)
noncomputable def decB (d : List UInt8) : List UInt8 := (decGroups (worthRow d)).flatten
theorem sixes_len (l : List UInt8) : (sixes l).length ≤ l.length := List.length_filterMap_le _ _
theorem groupOctets_len (ws : List Nat) : (groupOctets ws).length = ws.length - 1 := by simp [groupOctets]
noncomputable def decUpTo (row : List Nat) (i : Nat) : List (List UInt8) := ((List.range i).filter fun i => decide (4 * i + 1 < row.length)).map fun i => groupOctets ((row.drop (4 * i)).take 4)
theorem decUpTo_succ (row : List Nat) (i : Nat) : decUpTo row (i + 1) = decUpTo row i ++ (if 4 * i + 1 < row.length then [groupOctets ((row.drop (4 * i)).take 4)] else []) := by
  unfold decUpTo
  rw [List.range_succ, List.filter_append, List.map_append]
  congr 1
  by_cases h : 4 * i + 1 < row.length
  · simp [h]
  · simp [h]
theorem decUpTo_le (row : List Nat) : ∀ i, (decUpTo row i).length ≤ i ∧ lsum (decUpTo row i) ≤ 3 * i
  | 0 => by simp [decUpTo, lsum]
  | i + 1 => by
    have ih := decUpTo_le row i
    have hg := groupOctets_len ((row.drop (4 * i)).take 4)
    have ht : ((row.drop (4 * i)).take 4).length ≤ 4 := by rw [List.length_take]; omega
    rw [decUpTo_succ, lsum_append]
    split
    · rw [lsum_cons, List.length_append]; simp [lsum] at *; omega
    · simp [lsum] at *; omega
set_option hygiene false in
local macro_rules | `(tactic| tm_at "calls") => `(tactic| with_reducible first | refine' group_octets_ok S _ ?_ ?_)
theorem decoded_ok (S : Su C) (d : List UInt8) (hz : d.length ≤ 10000) : CallR C (n + 2) (.ref 63) [.bytes d] (.bytes (decB d)) := by
  refine CallR.fn (params := ["data"]) (dp := []) (dv := []) S.ok (S.K 63 _ rfl) rfl (codeRec_of S.K rfl) rfl rfl (fun s vs hl _ => bind1 hl fun _ => rfl) (fun _ _ => .nil) rfl (by decide) (by decide) (pk1 (.l rfl)) rfl rfl rfl (fun L => ?_) rfl
  tm_at "lit"
  tm_at "go"
  have hw : (worthRow d).length ≤ 10000 := by
    have h1 := sixes_len (d.takeWhile (· != 61))
    have h2 := (List.takeWhile_prefix (· != 61) (l := d)).length_le
    unfold worthRow
    omega
  -- what is done behind the first loop
  refine (fun (k : ∀ τ, Knows τ [("worth_row", .own (natsPV (worthRow d)))] → ExS C (n + 1) _ τ _ _) => xs_forL (ext := fun x => [("code", x)]) (fun i τ => (61 : UInt8) ∉ d.take i ∧ Knows τ [("worth_row", .own (natsPV (sixes (d.take i)))), ("worths", .tab (tabF signPairs)), ("data", .bytes d)]) (a := .bytes d) ?_ (fun _ => rfl) i_bytes (fun x hx => .name (stored_local rfl rfl)) ?_ (fun i x τ hx hJ => ?_) (fun τ hJ => k τ ?_)) (fun τ hτ => ?_)
  · tm_at "go"
  · refine ⟨by simp, ?_⟩
    tm_at "go"
    all_goals rfl
  · obtain ⟨hno, hk⟩ := hJ
    obtain ⟨c, hc, rfl⟩ := ints_at hx
    have hst : d.take (i + 1) = d.take i ++ [c] := by rw [List.take_add_one, hc]; rfl
    have hsl := sixes_len (d.take i)
    have htl := List.length_take_le' i d
    refine ExS.weaken ?_ hk.more
    refine xs_if (b := ((c.toNat : Int) == 61)) ?_ (fun h => ?_) (fun h => ?_)
    · tm_at "go"
    · refine xs_brk (then_brk (turn_brk (then_next (k _ ?_))))
      have hc61 : c = 61 := by
        rw [← UInt8.toNat_inj]
        have := beq_iff_eq.mp h
        exact Int.ofNat_inj.mp this
      have hw' : worthRow d = sixes (d.take i) := by
        unfold worthRow
        congr 1
        exact takeWhile_at hno (hc61 ▸ hc)
      rw [hw']
      tm_at "go"
      all_goals rfl
    · have hc61 : c ≠ 61 := fun e => by subst e; exact absurd h (by decide)
      refine xs_nil ?_
      have hs := tab_six c
      refine xs_if (b := (tabF signPairs (c.toNat : Int)).isSome) ?_ (fun h2 => ?_) (fun h2 => ?_)
      · tm_at "go"
      · rw [hs] at h2
        obtain ⟨w, hw2⟩ : ∃ w, sixOf c = some w := by
          cases e : sixOf c with
          | none => rw [e] at h2; cases h2
          | some w => exact ⟨w, rfl⟩
        have hs' : tabF signPairs (c.toNat : Int) = some (w : Int) := by rw [hs, hw2]; rfl
        refine xs_append (p := .int (w : Int)) rfl rfl (by decide) rfl rfl (fun _ => rfl) (EvE.sub ?_ ?_ Items.tab (g_tab hs') (fun _ _ => ⟨_, rfl⟩)) rfl (by rw [nats_len]; omega) ?_
        · tm_at "go"
        · tm_at "go"
        · refine xs_nil (xs_nil' (turn_next ⟨?_, ?_⟩))
          · rw [hst]; simp only [List.mem_append, List.mem_singleton, not_or]; exact ⟨hno, fun e => hc61 e.symm⟩
          · tm_at "go"
            all_goals (try tm_at "side")
            rw [hst]
            unfold sixes natsPV
            rw [List.filterMap_append, List.map_append]
            simp [hw2]
      · rw [hs] at h2
        have hw2 : sixOf c = none := by
          cases e : sixOf c with
          | none => rfl
          | some w => rw [e] at h2; cases h2
        refine xs_nil (xs_nil' (turn_next ⟨?_, ?_⟩))
        · rw [hst]; simp only [List.mem_append, List.mem_singleton, not_or]; exact ⟨hno, fun e => hc61 e.symm⟩
        · tm_at "go"
          all_goals (try tm_at "side")
          rw [hst]
          unfold sixes natsPV
          rw [List.filterMap_append]
          simp [hw2]
  · obtain ⟨hno, hk⟩ := hJ
    have e0 : (intsOf d).length = d.length := by simp [intsOf]
    rw [e0, List.take_length] at hno hk
    have hw' : worthRow d = sixes d := by
      unfold worthRow
      congr 1
      exact takeWhile_all hno
    rw [hw']
    exact fun q hq => hk q (by rcases List.mem_cons.mp hq with rfl | hq; exact .head _; cases hq)
  · refine ExS.weaken ?_ hτ.all
    tm_at "go"
    refine xs_forK (fun x => [("begin", x)]) (fun i => [("found", .own ((decUpTo (worthRow d) i).map .bytes)), ("worth_row", .own (natsPV (worthRow d)))]) (a := .rng 0 (((worthRow d).length + 3) / 4) 4) ?_ (fun _ => rfl) i_rng (fun x hx => .name (stored_local rfl rfl)) ?_ (fun i x hx => ?_) ?_
    · tm_at "go"
      all_goals (try tm_at "side")
      exact c_range3 (by decide) (by decide) (range_up (by decide) (by decide) (by omega)).1 (range_up (w := 4) (by decide) (by decide) (by omega)).2
    · tm_at "go"
      all_goals rfl
    · obtain ⟨hi, rfl⟩ := rng_at hx
      have hu := decUpTo_le (worthRow d) i
      have hcut : cut (worthRow d) (some (0 + (i : Int) * 4)) (some (0 + (i : Int) * 4 + 4)) = ((worthRow d).drop (4 * i)).take 4 := by
        rw [cutNN (a := 4 * i) (b := 4 * i + 4) (by omega) (by omega), show 4 * i + 4 - 4 * i = 4 by omega]
      have hlen : (((worthRow d).drop (4 * i)).take 4).length = min 4 ((worthRow d).length - 4 * i) := by rw [List.length_take, List.length_drop]
      tm_at "go"
      all_goals (try tm_at "side")
      · rename_i h
        simp only [decide_eq_true_eq] at h
        rw [hcut, hlen]; omega
      · rw [hcut, hlen]; omega
      · rename_i h
        simp only [decide_eq_true_eq] at h
        rw [hcut, decUpTo_succ, if_pos (by omega)]; simp
      · rename_i h
        simp only [decide_eq_false_iff_not] at h
        rw [decUpTo_succ, if_neg (by omega), List.append_nil]
    · rw [rng_len]
      have hu := decUpTo_le (worthRow d) (((worthRow d).length + 3) / 4)
      unfold lsum at hu
      tm_at "go"
      all_goals (try tm_at "side")
      rw [inter_nil]
      rfl
end
section
variable {C : Cx} {n : Nat}
/-! the lines of the data -/
noncomputable def lpHead (r : List UInt8) : List UInt8 × List UInt8 := if 0 < r.idxOf 10 ∧ r.getD (r.idxOf 10 - 1) 0 = 13 then (r.take (r.idxOf 10 - 1), [13, 10]) else (r.take (r.idxOf 10), [10])
noncomputable def lpN (k : Nat) : List UInt8 → List (List UInt8 × List UInt8) :=
  @Nat.rec (fun _ => List UInt8 → List (List UInt8 × List UInt8)) (fun r => [(r, [])]) (fun _ f r => if (10 : UInt8) ∈ r then lpHead r :: f (r.drop (r.idxOf 10 + 1)) else [(r, [])]) k
noncomputable def lp (r : List UInt8) : List (List UInt8 × List UInt8) := lpN r.length r
theorem lpN_no {k : Nat} {r : List UInt8} (h : (10 : UInt8) ∉ r) : lpN k r = [(r, [])] := by
  cases k with
  | zero => rfl
  | succ k => exact if_neg h
theorem lpN_yes {k : Nat} {r : List UInt8} (h : (10 : UInt8) ∈ r) : lpN (k + 1) r = lpHead r :: lpN k (r.drop (r.idxOf 10 + 1)) := if_pos h
theorem drop_less {r : List UInt8} {i k : Nat} (h : r.length ≤ k + 1) : (r.drop (i + 1)).length ≤ k := by
  rw [List.length_drop]; omega
theorem lpN_more : ∀ (k : Nat) (r : List UInt8), r.length ≤ k → lpN (k + 1) r = lpN k r := by
  intro k
  induction k with
  | zero =>
    intro r h
    have hr := List.eq_nil_of_length_eq_zero (Nat.le_zero.mp h)
    subst hr
    rw [lpN_no List.not_mem_nil, lpN_no List.not_mem_nil]
  | succ k ih =>
    intro r h
    by_cases hm : (10 : UInt8) ∈ r
    · rw [lpN_yes hm, lpN_yes hm, ih _ (drop_less h)]
    · rw [lpN_no hm, lpN_no hm]
theorem lpN_is {k : Nat} {r : List UInt8} (h : r.length ≤ k) : lpN k r = lp r := by
  obtain ⟨d, rfl⟩ := Nat.le.dest h
  induction d with
  | zero => rfl
  | succ d ih => rw [← Nat.add_assoc, lpN_more _ _ (Nat.le_add_right _ _), ih (Nat.le_add_right _ _)]
theorem lp_no {r : List UInt8} (h : (10 : UInt8) ∉ r) : lp r = [(r, [])] := lpN_no h
theorem lp_yes {r : List UInt8} (h : (10 : UInt8) ∈ r) : lp r = (if 0 < r.idxOf 10 ∧ r.getD (r.idxOf 10 - 1) 0 = 13 then (r.take (r.idxOf 10 - 1), [13, 10]) else (r.take (r.idxOf 10), [10])) :: lp (r.drop (r.idxOf 10 + 1)) := by
  obtain ⟨k, hk⟩ := Nat.exists_eq_succ_of_ne_zero (Nat.ne_of_gt (List.length_pos_of_mem h))
  unfold lp
  rw [hk, lpN_yes h, lpN_is (drop_less (Nat.le_of_eq hk))]
  rfl
noncomputable def partPV (p : List UInt8 × List UInt8) : PV := .tup [.bytes p.1, .bytes p.2]
set_option hygiene false in
local macro_rules | `(tactic| tm_at "calls") => `(tactic| with_reducible first | exact c_find3)
theorem line_parts_ok (S : Su C) (d : List UInt8) (hz : d.length ≤ 1000000) : CallR C (n + 1) (.ref 182) [.bytes d] (.lst ((lp d).map partPV)) := by
  refine CallR.fn (params := ["data"]) (dp := []) (dv := []) S.ok (S.K 182 _ rfl) rfl (codeRec_of S.K rfl) rfl rfl (fun s vs hl _ => bind1 hl fun _ => rfl) (fun _ _ => .nil) rfl (by decide) (by decide) (pk1 (.l rfl)) rfl rfl rfl (fun L => ?_) rfl
  tm_at "lit"
  tm_at "go"
  refine xs_whileK (D := Nat × List (List UInt8 × List UInt8)) (fun x => [("begin", .int (x.1 : Int)), ("found", .own (x.2.map partPV)), ("data", .bytes d)]) (fun x => x.1 ≤ d.length ∧ x.2.length ≤ x.1 ∧ x.2 ++ lp (d.drop x.1) = lp d) (fun x => d.length + 1 - x.1) (0, []) ⟨Nat.zero_le _, Nat.zero_le _, rfl⟩ ?_ ?_
  · tm_at "go"
    all_goals rfl
  · rintro ⟨b, fs⟩ ⟨hb, hfl, hP⟩
    simp only at hb hfl hP
    refine ⟨true, ?_, fun _ => ?_, fun h => by cases h⟩
    · exact EvE.plainTest EvE.cBool (fun _ => rfl)
    · refine xs_assign (p := .int (findB d 10 b)) ?_ rfl (stored_local rfl rfl) rfl ?_
      · tm_at "go"
      by_cases hm : (10 : UInt8) ∈ d.drop b
      · have hf : findB d 10 b = ((b + (d.drop b).idxOf 10 : Nat) : Int) := by unfold findB; rw [if_pos hm]
        have hil : (d.drop b).idxOf 10 < (d.drop b).length := List.idxOf_lt_length_iff.mpr hm
        have hld := List.length_drop (i := b) (l := d)
        rw [hf]
        generalize hI : (d.drop b).idxOf 10 = I at *
        refine xs_if (b := decide (((b + I : Nat) : Int) < 0)) ?_ (fun h => ?_) (fun _ => ?_)
        · tm_at "go"
        · simp only [decide_eq_true_eq] at h; omega
        · refine xs_nil ?_
          have hlp := lp_yes hm
          rw [hI] at hlp
          have hdd : (d.drop b).drop (I + 1) = d.drop (b + I + 1) := by rw [List.drop_drop]; congr 1
          have hgd : 0 < I → (((d.getD (((b + I : Nat) : Int) - 1).toNat 0).toNat : Int) == 13) = decide ((d.drop b).getD (I - 1) 0 = 13) := fun h => by
            rw [show (((b + I : Nat) : Int) - 1).toNat = b + (I - 1) by omega]
            have : d.getD (b + (I - 1)) 0 = (d.drop b).getD (I - 1) 0 := by simp [List.getD_eq_getElem?_getD]
            rw [this]
            generalize (d.drop b).getD (I - 1) 0 = c
            rw [Bool.eq_iff_iff, beq_iff_eq, decide_eq_true_eq, ← UInt8.toNat_inj]
            exact ⟨fun h => by have := Int.ofNat_inj.mp h; exact this, fun h => by rw [h]; rfl⟩
          refine xs_if (b := decide ((b : Int) < ((b + I : Nat) : Int)) && ((((d.getD (((b + I : Nat) : Int) - 1).toNat 0).toNat : Int) == 13) && true)) ?_ (fun h => ?_) (fun h => ?_)
          · tm_at "go"
            all_goals (try tm_at "side")
          · rw [Bool.and_true, Bool.and_eq_true, decide_eq_true_eq] at h
            have hI0 : 0 < I := by omega
            rw [hgd hI0, decide_eq_true_eq] at h
            rw [if_pos ⟨hI0, h.2⟩] at hlp
            have hcut : cut d (some (b : Int)) (some (((b + I : Nat) : Int) - 1)) = (d.drop b).take (I - 1) := by
              rw [cutNN (a := b) (b := b + I - 1) rfl (by omega), show b + I - 1 - b = I - 1 by omega]
            tm_at "go"
            all_goals (try tm_at "side")
            · refine ⟨(b + I + 1, fs ++ [((d.drop b).take (I - 1), [13, 10])]), ⟨by show b + I + 1 ≤ _; omega, by simp; omega, ?_⟩, by show _ - (b + I + 1) < _ - b; omega, ?_⟩
              · show (fs ++ _) ++ lp (d.drop (b + I + 1)) = _
                rw [← hP, hlp, hdd]; simp
              · tm_at "go"
                all_goals (try tm_at "side")
                · rfl
                · rw [hcut]
                  show PV.own (fs.map partPV ++ [_]) = PV.own ((fs ++ [_]).map partPV)
                  rw [List.map_append]; rfl
          · have hno : ¬ (0 < I ∧ (d.drop b).getD (I - 1) 0 = 13) := fun hh => by
              rw [hgd hh.1, decide_eq_true hh.2, decide_eq_true (by omega)] at h
              cases h
            rw [if_neg hno] at hlp
            have hcut : cut d (some (b : Int)) (some ((b + I : Nat) : Int)) = (d.drop b).take I := by
              rw [cutNN (a := b) (b := b + I) rfl rfl, show b + I - b = I by omega]
            tm_at "go"
            all_goals (try tm_at "side")
            · refine ⟨(b + I + 1, fs ++ [((d.drop b).take I, [10])]), ⟨by show b + I + 1 ≤ _; omega, by simp; omega, ?_⟩, by show _ - (b + I + 1) < _ - b; omega, ?_⟩
              · show (fs ++ _) ++ lp (d.drop (b + I + 1)) = _
                rw [← hP, hlp, hdd]; simp
              · tm_at "go"
                all_goals (try tm_at "side")
                · rfl
                · rw [hcut]
                  show PV.own (fs.map partPV ++ [_]) = PV.own ((fs ++ [_]).map partPV)
                  rw [List.map_append]; rfl
      · have hf : findB d 10 b = -1 := by unfold findB; rw [if_neg hm]
        rw [hf]
        have hlp := lp_no hm
        refine xs_if (b := true) (EvB.conv (p := decide ((-1 : Int) < 0)) ?_ rfl) (fun h => ?_) (fun h => by cases h)
        · tm_at "go"
        · tm_at "go"
          all_goals (try tm_at "side")
          refine congrArg (fun l => Out.ret (PV.lst l)) ?_
          rw [← hP, hlp, cutN (a := b) rfl, List.map_append]
          rfl

/-! unquoted -/
noncomputable def unqStep (f : List UInt8 → List UInt8) (c : UInt8) (r : List UInt8) : List UInt8 := if c = 61 ∧ 0 ≤ quotedAt (c :: r) 0 then (quotedAt (c :: r) 0).toNat.toUInt8 :: f (r.drop 2) else c :: f r
noncomputable def unqN (k : Nat) : List UInt8 → List UInt8 :=
  @Nat.rec (fun _ => List UInt8 → List UInt8) (fun _ => []) (fun _ f l => @List.rec UInt8 (fun _ => List UInt8) [] (fun c r _ => unqStep f c r) l) k
noncomputable def unq (l : List UInt8) : List UInt8 := unqN l.length l
theorem unqN_nil (k : Nat) : unqN k [] = [] := by cases k <;> rfl
theorem unqN_cons (k : Nat) (c : UInt8) (r : List UInt8) : unqN (k + 1) (c :: r) = unqStep (unqN k) c r := rfl
theorem unqN_more : ∀ (k : Nat) (l : List UInt8), l.length ≤ k → unqN (k + 1) l = unqN k l := by
  intro k
  induction k with
  | zero =>
    intro l h
    rw [List.eq_nil_of_length_eq_zero (Nat.le_zero.mp h), unqN_nil, unqN_nil]
  | succ k ih =>
    intro l h
    cases l with
    | nil => rw [unqN_nil, unqN_nil]
    | cons c r =>
      have hr : r.length ≤ k := Nat.le_of_succ_le_succ h
      rw [unqN_cons, unqN_cons]
      unfold unqStep
      rw [ih _ hr, ih (r.drop 2) (Nat.le_trans (by rw [List.length_drop]; exact Nat.sub_le _ _) hr)]
theorem unqN_is {k : Nat} {l : List UInt8} (h : l.length ≤ k) : unqN k l = unq l := by
  obtain ⟨d, rfl⟩ := Nat.le.dest h
  induction d with
  | zero => rfl
  | succ d ih => rw [← Nat.add_assoc, unqN_more _ _ (Nat.le_add_right _ _), ih (Nat.le_add_right _ _)]
theorem unq_nil : unq [] = [] := rfl
theorem unq_cons (c : UInt8) (r : List UInt8) : unq (c :: r) = if c = 61 ∧ 0 ≤ quotedAt (c :: r) 0 then (quotedAt (c :: r) 0).toNat.toUInt8 :: unq (r.drop 2) else c :: unq r := by
  show unqStep (unqN r.length) c r = _
  unfold unqStep
  rw [unqN_is (Nat.le_refl _), unqN_is (l := r.drop 2) (by rw [List.length_drop]; exact Nat.sub_le _ _)]
theorem unq_yes {r : List UInt8} (h : 0 ≤ quotedAt (61 :: r) 0) : unq (61 :: r) = (quotedAt (61 :: r) 0).toNat.toUInt8 :: unq (r.drop 2) := by rw [unq_cons, if_pos ⟨rfl, h⟩]
theorem unq_no {c : UInt8} {r : List UInt8} (h : ¬ (c = 61 ∧ 0 ≤ quotedAt (c :: r) 0)) : unq (c :: r) = c :: unq r := by rw [unq_cons, if_neg h]
theorem unq_len (k : Nat) : ∀ (l : List UInt8), l.length ≤ k → (unq l).length ≤ l.length := by
  induction k with
  | zero =>
    intro l h
    rw [List.eq_nil_of_length_eq_zero (Nat.le_zero.mp h)]; exact Nat.le_refl _
  | succ k ih =>
    intro l h
    cases l with
    | nil => exact Nat.le_refl _
    | cons c r =>
      have hr : r.length ≤ k := Nat.le_of_succ_le_succ h
      have hd : (r.drop 2).length ≤ r.length := by rw [List.length_drop]; exact Nat.sub_le _ _
      rw [unq_cons]
      split
      · exact Nat.succ_le_succ (Nat.le_trans (ih _ (Nat.le_trans hd hr)) hd)
      · exact Nat.succ_le_succ (ih _ hr)
theorem hexWorth_le (c : Int) : hexWorth c ≤ 15 ∧ -1 ≤ hexWorth c := by
  unfold hexWorth
  (repeat' split) <;> omega
theorem quotedAt_lt (l : List UInt8) (a : Nat) : quotedAt l a < 256 := by
  unfold quotedAt
  have h1 := hexWorth_le ((l.getD (a + 1) 0).toNat : Int)
  have h2 := hexWorth_le ((l.getD (a + 2) 0).toNat : Int)
  split
  · omega
  · split
    · omega
    · omega
theorem quotedAt_len {l : List UInt8} {a : Nat} (h : 0 ≤ quotedAt l a) : a + 2 < l.length := by
  unfold quotedAt at h
  split at h
  · omega
  · omega
theorem quotedAt_drop (l : List UInt8) (a : Nat) : quotedAt (l.drop a) 0 = quotedAt l a := by
  have e1 : (l.drop a).getD (0 + 1) 0 = l.getD (a + 1) 0 := by simp [List.getD_eq_getElem?_getD]
  have e2 : (l.drop a).getD (0 + 2) 0 = l.getD (a + 2) 0 := by simp [List.getD_eq_getElem?_getD]
  unfold quotedAt
  rw [e1, e2, List.length_drop]
  by_cases h : l.length ≤ a + 2
  · rw [if_pos h, if_pos (by omega)]
  · rw [if_neg h, if_neg (by omega)]
set_option hygiene false in
local macro_rules | `(tactic| tm_at "calls") => `(tactic| with_reducible first | refine' quoted_at_ok S _ _ ?_)
theorem unquoted_ok (S : Su C) (l : List UInt8) (hz : l.length ≤ 1000000) : CallR C (n + 3) (.ref 189) [.bytes l] (.bytes (unq l)) := by
  refine CallR.fn (params := ["line"]) (dp := []) (dv := []) S.ok (S.K 189 _ rfl) rfl (codeRec_of S.K rfl) rfl rfl (fun s vs hl _ => bind1 hl fun _ => rfl) (fun _ _ => .nil) rfl (by decide) (by decide) (pk1 (.l rfl)) rfl rfl rfl (fun L => ?_) rfl
  tm_at "lit"
  have hul := unq_len l.length l (Nat.le_refl _)
  tm_at "go"
  refine xs_whileK (D := Nat × List UInt8) (fun x => [("at", .int (x.1 : Int)), ("codes", .own (intsOf x.2)), ("line", .bytes l)]) (fun x => x.1 ≤ l.length ∧ x.2.length ≤ x.1 ∧ x.2 ++ unq (l.drop x.1) = unq l) (fun x => l.length - x.1) (0, []) ⟨Nat.zero_le _, Nat.zero_le _, rfl⟩ ?_ ?_
  · tm_at "go"
    all_goals rfl
  · rintro ⟨a, cs⟩ ⟨ha, hcl, hP⟩
    simp only at ha hcl hP
    refine ⟨decide ((a : Int) < (l.length : Int)), ?_, fun h => ?_, fun h => ?_⟩
    · tm_at "go"
      all_goals (try tm_at "side")
    · have hal : a < l.length := by simp only [decide_eq_true_eq] at h; omega
      have hd : l.drop a = l[a] :: l.drop (a + 1) := List.drop_eq_getElem_cons hal
      have hq := quotedAt_drop l a
      have hg : l.getD ((a : Int)).toNat 0 = l[a] := by rw [Int.toNat_natCast]; exact getD_of hal
      have hb61 : (((l.getD ((a : Int)).toNat 0).toNat : Int) == 61) = decide (l[a] = 61) := by
        rw [hg]
        rw [Bool.eq_iff_iff, beq_iff_eq, decide_eq_true_eq, ← UInt8.toNat_inj]
        exact ⟨fun h => by have := Int.ofNat_inj.mp h; exact this, fun h => by rw [h]; rfl⟩
      refine xs_assign (p := .int (bif decide (l[a] = 61) then quotedAt l a else -1)) (EvE.iteI (b := decide (l[a] = 61)) (EvB.conv (p := (((l.getD ((a : Int)).toNat 0).toNat : Int) == 61)) ?_ hb61) (fun _ => ?_) (fun _ => ?_)) rfl (stored_local rfl rfl) rfl ?_
      · tm_at "go"
        all_goals (try tm_at "side")
      · tm_at "go"
        all_goals (try tm_at "side")
      · tm_at "go"
      by_cases hc : l[a] = 61 ∧ 0 ≤ quotedAt l a
      · have hlen := quotedAt_len hc.2
        have hlt := quotedAt_lt l a
        have hu : unq (l.drop a) = (quotedAt l a).toNat.toUInt8 :: unq (l.drop (a + 3)) := by
          rw [hd, hc.1]
          have e : quotedAt (61 :: l.drop (a + 1)) 0 = quotedAt l a := by rw [← hq, hd, hc.1]
          rw [unq_yes (by rw [e]; exact hc.2), e, List.drop_drop]
        rw [decide_eq_true hc.1, cond_true]
        refine xs_if (b := decide ((0 : Int) ≤ quotedAt l a)) ?_ (fun _ => ?_) (fun h => absurd hc.2 (by simpa using h))
        · tm_at "go"
        · have hv : quotedAt l a = (((quotedAt l a).toNat.toUInt8.toNat : Nat) : Int) := by
            show quotedAt l a = (((quotedAt l a).toNat % 256 : Nat) : Int)
            omega
          tm_at "go"
          all_goals (try tm_at "side")
          · show (intsOf cs).length ≤ _
            unfold intsOf; rw [List.length_map]; omega
          · refine ⟨(a + 3, cs ++ [(quotedAt l a).toNat.toUInt8]), ⟨by show a + 3 ≤ _; omega, by simp; omega, ?_⟩, by show _ - (a + 3) < _ - a; omega, ?_⟩
            · show (cs ++ _) ++ unq (l.drop (a + 3)) = _
              rw [← hP, hu]; simp
            · tm_at "go"
              all_goals (try tm_at "side")
              · rfl
              · show PV.own (intsOf cs ++ [PV.int (quotedAt l a)]) = PV.own (intsOf (cs ++ [(quotedAt l a).toNat.toUInt8]))
                unfold intsOf
                rw [List.map_append, List.map_cons, List.map_nil, ← hv]
      · have hu : unq (l.drop a) = l[a] :: unq (l.drop (a + 1)) := by
          rw [hd]
          refine unq_no ?_
          rw [← hd, hq]; exact hc
        refine xs_if (b := false) (EvB.conv (p := decide ((0 : Int) ≤ (bif decide (l[a] = 61) then quotedAt l a else -1))) ?_ ?_) (fun h => by cases h) (fun _ => ?_)
        · tm_at "go"
        · by_cases h61 : l[a] = 61
          · rw [decide_eq_true h61, cond_true]
            exact decide_eq_false fun h => hc ⟨h61, h⟩
          · rw [decide_eq_false h61, cond_false]
            decide
        · tm_at "go"
          all_goals (try tm_at "side")
          · show (intsOf cs).length ≤ _
            unfold intsOf; rw [List.length_map]; omega
          · refine ⟨(a + 1, cs ++ [l[a]]), ⟨by show a + 1 ≤ _; omega, by simp; omega, ?_⟩, by show _ - (a + 1) < _ - a; omega, ?_⟩
            · show (cs ++ _) ++ unq (l.drop (a + 1)) = _
              rw [← hP, hu]; simp
            · tm_at "go"
              all_goals (try tm_at "side")
              · rfl
              · rw [hg]
                show PV.own (intsOf cs ++ [PV.int (l[a].toNat : Int)]) = PV.own (intsOf (cs ++ [l[a]]))
                unfold intsOf
                rw [List.map_append]; rfl
    · have hal : a = l.length := by simp only [decide_eq_false_iff_not] at h; omega
      have hc : cs = unq l := by rw [← hP, hal, List.drop_length, unq_nil, List.append_nil]
      refine xs_ret (p := .bytes (unq l)) ?_ rfl rfl
      tm_at "go"
      rw [hc]
      exact c_bytes (l := unq l) rfl (by omega)

/-! quoted_decoded, undone -/
noncomputable def qPart (p : List UInt8 × List UInt8) : List UInt8 :=
  if (rstripB p.1 [32, 9]).drop ((rstripB p.1 [32, 9]).length - 1) == [61] then unq ((rstripB p.1 [32, 9]).take ((rstripB p.1 [32, 9]).length - 1)) else unq (rstripB p.1 [32, 9]) ++ p.2
noncomputable def qDec (d : List UInt8) : List UInt8 := ((lp d).map qPart).flatten
theorem lp_sizes : ∀ (k : Nat) (r : List UInt8), r.length ≤ k → (lp r).length ≤ r.length + 1 ∧ ∀ p ∈ lp r, p.1.length + p.2.length ≤ r.length + 2 ∧ p.2.length ≤ 2 ∧ p.1.length ≤ r.length
  | k, r, h => by
    by_cases hm : (10 : UInt8) ∈ r
    · have hil : r.idxOf 10 < r.length := List.idxOf_lt_length_iff.mpr hm
      cases k with
      | zero => omega
      | succ k =>
        have ih := lp_sizes k (r.drop (r.idxOf 10 + 1)) (by rw [List.length_drop]; omega)
        rw [List.length_drop] at ih
        rw [lp_yes hm]
        refine ⟨by have := ih.1; simp; omega, fun p hp => ?_⟩
        rcases List.mem_cons.mp hp with rfl | hp
        · split
          · simp only [List.length_take, List.length_cons, List.length_nil]; omega
          · simp only [List.length_take, List.length_cons, List.length_nil]; omega
        · have := ih.2 p hp
          omega
    · rw [lp_no hm]
      refine ⟨by simp, fun p hp => ?_⟩
      rcases List.mem_cons.mp hp with rfl | hp
      · simp
      · cases hp
theorem qPart_le (p : List UInt8 × List UInt8) : (qPart p).length ≤ p.1.length + p.2.length := by
  have h := rstrip_len p.1 [32, 9]
  unfold qPart
  split
  · have := unq_len _ ((rstripB p.1 [32, 9]).take ((rstripB p.1 [32, 9]).length - 1)) (Nat.le_refl _)
    rw [List.length_take] at this
    omega
  · have := unq_len _ (rstripB p.1 [32, 9]) (Nat.le_refl _)
    rw [List.length_append]
    omega
theorem lsum_le {ls : List (List UInt8)} {b : Nat} (h : ∀ l ∈ ls, l.length ≤ b) : lsum ls ≤ b * ls.length := by
  induction ls with
  | nil => simp [lsum]
  | cons a r ih =>
    have h1 := ih fun l hl => h l (.tail _ hl)
    have h2 := h a (.head _)
    rw [lsum_cons, List.length_cons, Nat.mul_succ]
    omega
theorem parts_at {ls : List (List UInt8 × List UInt8)} {i : Nat} {x : PV} (h : (ls.map partPV)[i]? = some x) : ∃ b, ls[i]? = some b ∧ x = partPV b := by
  rw [List.getElem?_map] at h
  obtain ⟨j, hj, rfl⟩ := Option.map_eq_some_iff.mp h
  exact ⟨j, hj, rfl⟩
set_option hygiene false in
local macro_rules | `(tactic| tm_at "calls") => `(tactic| with_reducible first | refine' unquoted_ok S _ ?_ | refine' line_parts_ok S _ ?_)
noncomputable def pairExt : PV → Loc
  | .tup [a, b] => [("end", b), ("line", a)]
  | _ => []
theorem quoted_decoded_ok (S : Su C) (d : List UInt8) (hz : d.length ≤ 3000) : CallR C (n + 4) (.ref 196) [.bytes d] (.bytes (qDec d)) := by
  refine CallR.fn (params := ["data"]) (dp := []) (dv := []) S.ok (S.K 196 _ rfl) rfl (codeRec_of S.K rfl) rfl rfl (fun s vs hl _ => bind1 hl fun _ => rfl) (fun _ _ => .nil) rfl (by decide) (by decide) (pk1 (.l rfl)) rfl rfl rfl (fun L => ?_) rfl
  tm_at "lit"
  have hs := lp_sizes d.length d (Nat.le_refl _)
  tm_at "go"
  refine xs_forK pairExt (fun i => [("parts", .own ((((lp d).take i).map qPart).map .bytes))]) (a := .lst ((lp d).map partPV)) ?_ (fun _ => rfl) i_list (fun x hx => ?_) ?_ (fun i x hx => ?_) ?_
  · tm_at "go"
    all_goals (try tm_at "side")
  · obtain ⟨i, hi⟩ := List.mem_iff_getElem?.mp hx
    obtain ⟨b, hb, rfl⟩ := parts_at hi
    exact AsgR.tup (.cons (stored_local rfl rfl) (.cons (stored_local rfl rfl) .nil))
  · tm_at "go"
    all_goals rfl
  · obtain ⟨b, hb, rfl⟩ := parts_at hx
    have hbs := hs.2 b (List.mem_of_getElem? hb)
    have hst : (lp d).take (i + 1) = (lp d).take i ++ [b] := by rw [List.take_add_one, hb]; rfl
    have hlt := List.length_take_le' i (lp d)
    have hrl := rstrip_len b.1 [32, 9]
    have hul := unq_len _ (rstripB b.1 [32, 9]) (Nat.le_refl _)
    have hq := qPart_le b
    have hcp : cut (rstripB b.1 [32, 9]) none (some (((rstripB b.1 [32, 9]).length : Int) - 1)) = (rstripB b.1 [32, 9]).take ((rstripB b.1 [32, 9]).length - 1) := cut_pred
    show ExS C (n + 3) _ (([("end", PV.bytes b.2), ("line", PV.bytes b.1)] : Loc) ++ _) _ _
    tm_at "go"
    all_goals (try tm_at "side")
    · rename_i h
      rw [hcp, List.length_take]; omega
    · rename_i h
      rw [cut_last] at h
      rw [hst, List.map_append, List.map_append, hcp]
      show _ = PV.own (_ ++ [PV.bytes (qPart b)])
      unfold qPart
      rw [if_pos h]
    · rename_i h
      rw [cut_last] at h
      rw [hst, List.map_append, List.map_append]
      show _ = PV.own (_ ++ [PV.bytes (qPart b)])
      unfold qPart
      rw [if_neg (by rw [h]; decide)]
  · rw [List.length_map, List.take_length]
    have hsum : lsum ((lp d).map qPart) ≤ (d.length + 2) * ((lp d).map qPart).length := lsum_le fun l hl => by
      obtain ⟨p, hp, rfl⟩ := List.mem_map.mp hl
      have := qPart_le p
      have := hs.2 p hp
      omega
    have hmm : (d.length + 2) * ((lp d).map qPart).length ≤ 3002 * 3001 := Nat.mul_le_mul (by omega) (by rw [List.length_map]; omega)
    unfold lsum at hsum
    tm_at "go"
    all_goals (try tm_at "side")
    rw [inter_nil]
    rfl

set_option hygiene false in
local macro_rules | `(tactic| tm_at "calls") => `(tactic| with_reducible first | refine' quoted_decoded_ok S _ ?_ | refine' decoded_ok S _ ?_)
theorem undone_b (S : Su C) (o : List UInt8) (hz : o.length ≤ 3000) : CallR C (n + 5) (.ref 215) [.str "base64", .bytes o] (.bytes (decB o)) := by
  refine CallR.fn (params := ["encoding", "octets"]) (dp := []) (dv := []) S.ok (S.K 215 _ rfl) rfl (codeRec_of S.K rfl) rfl rfl (fun s vs hl _ => bind2 hl fun _ _ => rfl) (fun _ _ => .nil) rfl (by decide) (by decide) (pk2 (.l rfl) (.l rfl)) rfl rfl rfl (fun L => ?_) rfl
  tm_at "lit"
  refine xs_if (b := (("base64" : Str) == "base64")) ?_ (fun _ => ?_) (fun h => absurd h (by decide))
  · tm_at "go"
  · tm_at "go"
    all_goals (try tm_at "side")
theorem undone_q (S : Su C) (o : List UInt8) (hz : o.length ≤ 3000) : CallR C (n + 5) (.ref 215) [.str "quoted-printable", .bytes o] (.bytes (qDec o)) := by
  refine CallR.fn (params := ["encoding", "octets"]) (dp := []) (dv := []) S.ok (S.K 215 _ rfl) rfl (codeRec_of S.K rfl) rfl rfl (fun s vs hl _ => bind2 hl fun _ _ => rfl) (fun _ _ => .nil) rfl (by decide) (by decide) (pk2 (.l rfl) (.l rfl)) rfl rfl rfl (fun L => ?_) rfl
  tm_at "lit"
  refine xs_if (b := (("quoted-printable" : Str) == "base64")) ?_ (fun h => absurd h (by decide)) (fun _ => ?_)
  · tm_at "go"
  · refine xs_nil (xs_if (b := (("quoted-printable" : Str) == "quoted-printable")) ?_ (fun _ => ?_) (fun h => absurd h (by decide)))
    · tm_at "go"
    · tm_at "go"
      all_goals (try tm_at "side")
end
section
variable {C : Cx} {n : Nat}
/-! the spans of the lines -/
noncomputable def lastOf (r : List UInt8) : Nat := if 0 < r.idxOf 10 ∧ r.getD (r.idxOf 10 - 1) 0 = 13 then r.idxOf 10 - 1 else r.idxOf 10
noncomputable def spN (k : Nat) : Nat → List UInt8 → List (Nat × Nat × Nat) :=
  @Nat.rec (fun _ => Nat → List UInt8 → List (Nat × Nat × Nat)) (fun _ _ => []) (fun _ f b r => if r = [] then [] else if (10 : UInt8) ∈ r then (b, b + lastOf r, b + r.idxOf 10 + 1) :: f (b + r.idxOf 10 + 1) (r.drop (r.idxOf 10 + 1)) else [(b, b + r.length, b + r.length)]) k
noncomputable def sp (b : Nat) (r : List UInt8) : List (Nat × Nat × Nat) := spN r.length b r
theorem spN_eq {k b : Nat} {r : List UInt8} : spN (k + 1) b r = if r = [] then [] else if (10 : UInt8) ∈ r then (b, b + lastOf r, b + r.idxOf 10 + 1) :: spN k (b + r.idxOf 10 + 1) (r.drop (r.idxOf 10 + 1)) else [(b, b + r.length, b + r.length)] := rfl
theorem spN_nil (k b : Nat) : spN k b [] = [] := by
  cases k with
  | zero => rfl
  | succ k => exact spN_eq.trans (if_pos rfl)
theorem ne_of_in {r : List UInt8} (h : (10 : UInt8) ∈ r) : r ≠ [] := fun e => by subst e; cases h
theorem spN_yes {k b : Nat} {r : List UInt8} (h : (10 : UInt8) ∈ r) : spN (k + 1) b r = (b, b + lastOf r, b + r.idxOf 10 + 1) :: spN k (b + r.idxOf 10 + 1) (r.drop (r.idxOf 10 + 1)) := (if_neg (ne_of_in h)).trans (if_pos h)
theorem spN_no {k b : Nat} {r : List UInt8} (h0 : r ≠ []) (h : (10 : UInt8) ∉ r) : spN (k + 1) b r = [(b, b + r.length, b + r.length)] := (if_neg h0).trans (if_neg h)
theorem spN_more : ∀ (k b : Nat) (r : List UInt8), r.length ≤ k → spN (k + 1) b r = spN k b r := by
  intro k
  induction k with
  | zero =>
    intro b r h
    rw [List.eq_nil_of_length_eq_zero (Nat.le_zero.mp h), spN_nil, spN_nil]
  | succ k ih =>
    intro b r h
    by_cases h0 : r = []
    · rw [h0, spN_nil, spN_nil]
    · by_cases hm : (10 : UInt8) ∈ r
      · rw [spN_yes hm, spN_yes hm, ih _ _ (drop_less h)]
      · rw [spN_no h0 hm, spN_no h0 hm]
theorem spN_is {k b : Nat} {r : List UInt8} (h : r.length ≤ k) : spN k b r = sp b r := by
  obtain ⟨d, rfl⟩ := Nat.le.dest h
  induction d with
  | zero => rfl
  | succ d ih => rw [← Nat.add_assoc, spN_more _ _ _ (Nat.le_add_right _ _), ih (Nat.le_add_right _ _)]
theorem sp_nil {b : Nat} : sp b [] = [] := rfl
theorem sp_no {b : Nat} {r : List UInt8} (h0 : r ≠ []) (h : (10 : UInt8) ∉ r) : sp b r = [(b, b + r.length, b + r.length)] := by
  obtain ⟨k, hk⟩ := Nat.exists_eq_succ_of_ne_zero (fun e => h0 (List.eq_nil_of_length_eq_zero e))
  unfold sp
  rw [hk, spN_no h0 h, hk]
theorem sp_yes {b : Nat} {r : List UInt8} (h : (10 : UInt8) ∈ r) : sp b r = (b, b + lastOf r, b + r.idxOf 10 + 1) :: sp (b + r.idxOf 10 + 1) (r.drop (r.idxOf 10 + 1)) := by
  obtain ⟨k, hk⟩ := Nat.exists_eq_succ_of_ne_zero (Nat.ne_of_gt (List.length_pos_of_mem h))
  unfold sp
  rw [hk, spN_yes h, spN_is (drop_less (Nat.le_of_eq hk))]
  rfl
/-- the spans' widths are those of the lines -/
theorem sp_lp : ∀ (k b : Nat) (r : List UInt8), r.length ≤ k → ∀ s ∈ sp b r, ∃ p ∈ lp r, s.2.1 = s.1 + p.1.length := by
  intro k
  induction k with
  | zero =>
    intro b r h s hs
    have : r = [] := List.eq_nil_of_length_eq_zero (by omega)
    subst this
    rw [sp_nil] at hs; cases hs
  | succ k ih =>
    intro b r h s hs
    by_cases hm : (10 : UInt8) ∈ r
    · have hil : r.idxOf 10 < r.length := List.idxOf_lt_length_iff.mpr hm
      rw [sp_yes hm] at hs
      rw [lp_yes hm]
      rcases List.mem_cons.mp hs with rfl | hs
      · refine ⟨_, .head _, ?_⟩
        unfold lastOf
        split
        · simp only [List.length_take]; omega
        · simp only [List.length_take]; omega
      · obtain ⟨p, hp, e⟩ := ih _ _ (by rw [List.length_drop]; omega) s hs
        exact ⟨p, .tail _ hp, e⟩
    · by_cases h0 : r = []
      · subst h0; rw [sp_nil] at hs; cases hs
      · rw [sp_no h0 hm] at hs
        rw [lp_no hm]
        rcases List.mem_cons.mp hs with rfl | hs
        · exact ⟨_, .head _, rfl⟩
        · cases hs
noncomputable def spanPV (s : Nat × Nat × Nat) : PV := .tup [.int (s.1 : Int), .int (s.2.1 : Int), .int (s.2.2 : Int)]
theorem spans_at {ls : List (Nat × Nat × Nat)} {i : Nat} {x : PV} (h : (ls.map spanPV)[i]? = some x) : ∃ b, ls[i]? = some b ∧ x = spanPV b := by
  rw [List.getElem?_map] at h
  obtain ⟨j, hj, rfl⟩ := Option.map_eq_some_iff.mp h
  exact ⟨j, hj, rfl⟩
theorem line_spans_ok (S : Su C) (d : List UInt8) (hz : d.length ≤ 1000000) : CallR C (n + 1) (.ref 71) [.bytes d] (.lst ((sp 0 d).map spanPV)) := by
  refine CallR.fn (params := ["data", "at", "end"]) (dp := [.int 0, .int (-1)]) (dv := [.int 0 261, .int (-1) 263]) S.ok (S.K 71 _ rfl) rfl (codeRec_of S.K rfl) rfl rfl (fun s vs hl hk => ?_) (fun _ _ => .cons (.int 0 _) (.cons (.int (-1) _) .nil)) rfl (by decide) (by decide) (pk3 (.l rfl) (.l rfl) (.l rfl)) rfl rfl rfl (fun L => ?_) rfl
  · obtain ⟨v, rfl⟩ := vs1 hl
    exact binds_K (S.K.keeps hk) rfl rfl rfl rfl rfl
  tm_at "lit"
  refine xs_assign (p := .int d.length) (EvE.ite (b := decide ((-1 : Int) < 0)) ?_ (fun _ => ?_) (fun h => absurd h (by decide))) rfl (stored_local rfl rfl) rfl ?_
  · tm_at "go"
  · tm_at "go"
    all_goals (try tm_at "side")
  tm_at "go"
  refine xs_whileK (D := Nat × List (Nat × Nat × Nat)) (fun x => [("begin", .int (x.1 : Int)), ("found", .own (x.2.map spanPV)), ("behind", .int d.length), ("data", .bytes d)]) (fun x => x.1 ≤ d.length ∧ x.2.length ≤ x.1 ∧ x.2 ++ sp x.1 (d.drop x.1) = sp 0 d) (fun x => d.length - x.1) (0, []) ⟨Nat.zero_le _, Nat.zero_le _, rfl⟩ ?_ ?_
  · tm_at "go"
    all_goals rfl
  · rintro ⟨b, fs⟩ ⟨hb, hfl, hP⟩
    simp only at hb hfl hP
    refine ⟨decide ((b : Int) < (d.length : Int)), ?_, fun h => ?_, fun h => ?_⟩
    · tm_at "go"
    · have hbl : b < d.length := by simp only [decide_eq_true_eq] at h; omega
      have hld := List.length_drop (i := b) (l := d)
      refine xs_assign (p := .int (findB d 10 b)) ?_ rfl (stored_local rfl rfl) rfl ?_
      · tm_at "go"
        exact c_find4 rfl
      by_cases hm : (10 : UInt8) ∈ d.drop b
      · have hf : findB d 10 b = ((b + (d.drop b).idxOf 10 : Nat) : Int) := by unfold findB; rw [if_pos hm]
        have hil : (d.drop b).idxOf 10 < (d.drop b).length := List.idxOf_lt_length_iff.mpr hm
        have hsp := sp_yes (b := b) hm
        have hla : lastOf (d.drop b) = if 0 < (d.drop b).idxOf 10 ∧ (d.drop b).getD ((d.drop b).idxOf 10 - 1) 0 = 13 then (d.drop b).idxOf 10 - 1 else (d.drop b).idxOf 10 := rfl
        rw [hf]
        generalize hI : (d.drop b).idxOf 10 = I at *
        have hdd : (d.drop b).drop (I + 1) = d.drop (b + I + 1) := by rw [List.drop_drop]; congr 1
        have hgd : 0 < I → (((d.getD (((b + I : Nat) : Int) - 1).toNat 0).toNat : Int) == 13) = decide ((d.drop b).getD (I - 1) 0 = 13) := fun h => by
          rw [show (((b + I : Nat) : Int) - 1).toNat = b + (I - 1) by omega]
          have : d.getD (b + (I - 1)) 0 = (d.drop b).getD (I - 1) 0 := by simp [List.getD_eq_getElem?_getD]
          rw [this]
          generalize (d.drop b).getD (I - 1) 0 = c
          rw [Bool.eq_iff_iff, beq_iff_eq, decide_eq_true_eq, ← UInt8.toNat_inj]
          exact ⟨fun h => by have := Int.ofNat_inj.mp h; exact this, fun h => by rw [h]; rfl⟩
        refine xs_if (b := decide (((b + I : Nat) : Int) < 0)) ?_ (fun h => ?_) (fun _ => ?_)
        · tm_at "go"
        · simp only [decide_eq_true_eq] at h; omega
        · refine xs_nil ?_
          refine xs_assign (p := .int ((b + lastOf (d.drop b) : Nat) : Int)) (EvE.conv (p := .int (bif (decide ((b : Int) < ((b + I : Nat) : Int)) && ((((d.getD (((b + I : Nat) : Int) - 1).toNat 0).toNat : Int) == 13) && true)) then ((b + I : Nat) : Int) - 1 else ((b + I : Nat) : Int))) ?_ ?_) rfl (stored_local rfl rfl) rfl ?_
          · tm_at "go"
            all_goals (try tm_at "side")
          · refine congrArg PV.int ?_
            rw [hla]
            by_cases hq : 0 < I ∧ (d.drop b).getD (I - 1) 0 = 13
            · rw [if_pos hq, hgd hq.1, decide_eq_true hq.2, decide_eq_true (by omega)]
              show ((b + I : Nat) : Int) - 1 = _
              omega
            · rw [if_neg hq]
              by_cases hI0 : 0 < I
              · rw [hgd hI0, decide_eq_false (fun h => hq ⟨hI0, h⟩), Bool.false_and, Bool.and_false]; rfl
              · rw [decide_eq_false (by omega), Bool.false_and]; rfl
          · generalize lastOf (d.drop b) = la at *
            tm_at "go"
            all_goals (try tm_at "side")
            refine ⟨(b + I + 1, fs ++ [(b, b + la, b + I + 1)]), ⟨by show b + I + 1 ≤ _; omega, by simp; omega, ?_⟩, by show _ - (b + I + 1) < _ - b; omega, ?_⟩
            · show (fs ++ _) ++ sp (b + I + 1) (d.drop (b + I + 1)) = _
              rw [← hP, hsp, hdd]; simp
            · tm_at "go"
              all_goals (try tm_at "side")
              · rfl
              · show PV.own (fs.map spanPV ++ [_]) = PV.own ((fs ++ [_]).map spanPV)
                rw [List.map_append]; rfl
      · have hf : findB d 10 b = -1 := by unfold findB; rw [if_neg hm]
        rw [hf]
        have hsp := sp_no (b := b) (by intro e; rw [e] at hld; simp at hld; omega) hm
        refine xs_if (b := true) (EvB.conv (p := decide ((-1 : Int) < 0)) ?_ rfl) (fun h => ?_) (fun h => by cases h)
        · tm_at "go"
        · tm_at "go"
          all_goals (try tm_at "side")
          refine congrArg (fun l => Out.ret (PV.lst l)) ?_
          rw [← hP, hsp, List.map_append, hld, show b + (d.length - b) = d.length by omega]
          rfl
    · have hbl : b = d.length := by simp only [decide_eq_false_iff_not] at h; omega
      have hfs : fs = sp 0 d := by rw [← hP, hbl, List.drop_length, sp_nil, List.append_nil]
      tm_at "go"
      rw [← hfs]

/-! seven bits -/
noncomputable def Good7 (d : List UInt8) : Prop := (∀ (i : Nat) (c : UInt8), d[i]? = some c → c ≠ 0 ∧ c.toNat ≤ 127 ∧ (c = 13 → d[i + 1]? = some 10) ∧ (c = 10 → 0 < i ∧ d[i - 1]? = some 13)) ∧ ∀ p ∈ lp d, p.1.length ≤ 998
set_option hygiene false in
local macro_rules | `(tactic| tm_at "calls") => `(tactic| with_reducible first | refine' line_spans_ok S _ ?_)
noncomputable def spanExt : PV → Loc
  | .tup [a, b, c] => [("behind", c), ("last", b), ("first", a)]
  | _ => []
theorem take1_at {d : List UInt8} {i : Nat} {c : UInt8} (h : d[i]? = some c) : (d.drop i).take 1 = [c] := by
  obtain ⟨hi, rfl⟩ := List.getElem?_eq_some_iff.mp h
  rw [List.drop_eq_getElem_cons hi]; rfl
theorem is_seven_bit_ok (S : Su C) (d : List UInt8) (hz : d.length ≤ 1000000) (hg : Good7 d) : CallR C (n + 5) (.ref 201) [.bytes d] (.bool true) := by
  refine CallR.fn (params := ["octets"]) (dp := []) (dv := []) S.ok (S.K 201 _ rfl) rfl (codeRec_of S.K rfl) rfl rfl (fun s vs hl _ => bind1 hl fun _ => rfl) (fun _ _ => .nil) rfl (by decide) (by decide) (pk1 (.l rfl)) rfl rfl rfl (fun L => ?_) rfl
  tm_at "lit"
  obtain ⟨hg, hw⟩ := hg
  refine xs_forK (fun x => [("at", x)]) (fun i => [("octets", .bytes d)]) (a := .rng 0 d.length 1) ?_ (fun _ => rfl) i_rng (fun x hx => .name (stored_local rfl rfl)) ?_ (fun i x hx => ?_) ?_
  · tm_at "go"
    all_goals (try tm_at "side")
  · tm_at "go"
    all_goals rfl
  · obtain ⟨hi, rfl⟩ := rng_at0 hx
    obtain ⟨h0, h127, h13, h10⟩ := hg i d[i] (List.getElem?_eq_getElem hi)
    have hgd : d.getD ((i : Int)).toNat 0 = d[i] := by rw [Int.toNat_natCast]; exact getD_of hi
    refine xs_assign (p := .int (d[i].toNat : Int)) (EvE.conv (p := .int ((d.getD ((i : Int)).toNat 0).toNat : Int)) ?_ (by rw [hgd])) rfl (stored_local rfl rfl) rfl ?_
    · tm_at "go"
      all_goals (try tm_at "side")
    have hne : d[i].toNat ≠ 0 := fun e => h0 (UInt8.toNat_inj.mp e)
    refine xs_if (b := false) (EvB.conv (p := ((d[i].toNat : Int) == 0) || (decide ((127 : Int) < (d[i].toNat : Int)) || false)) ?_ ?_) (fun h => by cases h) (fun _ => ?_)
    · tm_at "go"
    · rw [Bool.or_false, Bool.or_eq_false_iff]
      exact ⟨by rw [beq_eq_false_iff_ne]; omega, by rw [decide_eq_false_iff_not]; omega⟩
    refine xs_nil ?_
    have c1 : ((d[i].toNat : Int) == 13) = true → cut d (some ((i : Int) + 1)) (some ((i : Int) + 2)) = [10] := fun h => by
      have : d[i] = 13 := UInt8.toNat_inj.mp (Int.ofNat_inj.mp (beq_iff_eq.mp h))
      rw [cutNN (a := i + 1) (b := i + 2) (by omega) (by omega), show i + 2 - (i + 1) = 1 by omega]
      exact take1_at (h13 this)
    have c2 : ((d[i].toNat : Int) == 10) = true → cut d (some (max ((i : Int) - 1) 0)) (some (i : Int)) = [13] := fun h => by
      have : d[i] = 10 := UInt8.toNat_inj.mp (Int.ofNat_inj.mp (beq_iff_eq.mp h))
      obtain ⟨hp, h'⟩ := h10 this
      rw [cutNN (a := i - 1) (b := i) (by omega) rfl, show i - (i - 1) = 1 by omega]
      exact take1_at h'
    refine xs_if (b := false) (EvB.conv (p := (((d[i].toNat : Int) == 13) && ((cut d (some ((i : Int) + 1)) (some ((i : Int) + 2)) != [10]) && true)) || ((((d[i].toNat : Int) == 10) && ((cut d (some (max ((i : Int) - 1) 0)) (some (i : Int)) != [13]) && true)) || false)) ?_ ?_) (fun h => by cases h) (fun _ => ?_)
    · tm_at "go"
      all_goals (try tm_at "side")
    · rw [Bool.or_false, Bool.and_true, Bool.and_true, Bool.or_eq_false_iff]
      constructor
      · by_cases h : ((d[i].toNat : Int) == 13) = true
        · rw [c1 h]; simp
        · rw [Bool.not_eq_true] at h; rw [h]; rfl
      · by_cases h : ((d[i].toNat : Int) == 10) = true
        · rw [c2 h]; simp
        · rw [Bool.not_eq_true] at h; rw [h]; rfl
    · tm_at "go"
      all_goals (try tm_at "side")
  · refine xs_ret (p := .bool (decide (([] : List Int) = []))) ?_ rfl rfl
    refine EvE.cmp (a := .lst (intL [])) (b := .lst (intL [])) ?_ ?_ (o_eqL rfl rfl) rfl
    · refine EvE.conv (EvE.comp (σf := []) spanExt (fun _ => false) (fun _ => .none) (a := .lst ((sp 0 d).map spanPV)) ?_ i_list rfl (by decide) rfl (by decide) .nil ?_ (fun Cf x hx => ?_) (.inr ⟨_, rfl, fun Cf x hx => ?_⟩) (fun Cf x hx h => by cases h) ?_ (fun _ => rfl) (fun _ _ _ _ h => by simp at h)) (by simp [intL])
      · tm_at "go"
        all_goals (try tm_at "side")
      · exact fun m c h => by cases h
      · obtain ⟨i, hi⟩ := List.mem_iff_getElem?.mp hx
        obtain ⟨b, hb, rfl⟩ := spans_at hi
        exact AsgR.tup (.cons (stored_local rfl rfl) (.cons (stored_local rfl rfl) (.cons (stored_local rfl rfl) .nil)))
      · obtain ⟨i, hi⟩ := List.mem_iff_getElem?.mp hx
        obtain ⟨b, hb, rfl⟩ := spans_at hi
        obtain ⟨p, hp, e⟩ := sp_lp d.length 0 d (Nat.le_refl _) b (List.mem_of_getElem? hb)
        have := hw p hp
        refine EvB.conv (p := decide ((998 : Int) < (b.2.1 : Int) - (b.1 : Int))) ?_ (by rw [decide_eq_false_iff_not]; omega)
        show EvB C _ _ (([("behind", PV.int (b.2.2 : Int)), ("last", PV.int (b.2.1 : Int)), ("first", PV.int (b.1 : Int))] : Loc) ++ ([] : Loc)) _ _
        tm_at "go"
      · rw [List.length_map]
        have : ∀ (k b : Nat) (r : List UInt8), r.length ≤ k → (sp b r).length ≤ r.length := by
          intro k
          induction k with
          | zero =>
            intro b r h
            have : r = [] := List.eq_nil_of_length_eq_zero (by omega)
            subst this
            rw [sp_nil]; exact Nat.le_refl _
          | succ k ih =>
            intro b r h
            by_cases hm : (10 : UInt8) ∈ r
            · have hil : r.idxOf 10 < r.length := List.idxOf_lt_length_iff.mpr hm
              have := ih (b + r.idxOf 10 + 1) (r.drop (r.idxOf 10 + 1)) (by rw [List.length_drop]; omega)
              rw [List.length_drop] at this
              rw [sp_yes hm]; simp; omega
            · by_cases h0 : r = []
              · subst h0; rw [sp_nil]; exact Nat.le_refl _
              · rw [sp_no h0 hm]
                have : 0 < r.length := List.length_pos_iff.mpr h0
                simp; omega
        have := this _ 0 d (Nat.le_refl _)
        omega
    · refine EvE.conv (p := .lst []) ?_ rfl
      tm_at "go"

/-! hard ends -/
noncomputable def hardEnds (o : List UInt8) : Nat := ((splitC o).dropLast.filter fun r => r.drop (r.length - 1) != [61]).length
noncomputable def notEq61 : PV → Bool
  | .bytes r => r.drop (r.length - 1) != [61]
  | _ => false
theorem hard_ends_ok (S : Su C) (o : List UInt8) (hz : o.length ≤ 100000) : CallR C (n + 1) (.ref 228) [.bytes o] (.int (hardEnds o)) := by
  refine CallR.fn (params := ["octets"]) (dp := []) (dv := []) S.ok (S.K 228 _ rfl) rfl (codeRec_of S.K rfl) rfl rfl (fun s vs hl _ => bind1 hl fun _ => rfl) (fun _ _ => .nil) rfl (by decide) (by decide) (pk1 (.l rfl)) rfl rfl rfl (fun L => ?_) rfl
  tm_at "lit"
  have hle := splitC_le _ o (Nat.le_refl _)
  have hdl : (splitC o).dropLast.length ≤ 100001 := by rw [List.length_dropLast]; omega
  refine xs_assign (p := .lst ((splitC o).map .bytes)) ?_ rfl (stored_local rfl rfl) rfl ?_
  · tm_at "go"
    all_goals (try tm_at "side")
  refine xs_ret (p := .int (hardEnds o)) ?_ rfl rfl
  refine EvE.call (ps := [.lst (((splitC o).dropLast.filter fun r => r.drop (r.length - 1) != [61]).map .bytes)]) ?_ KeepOf.builtin (.cons ?_ .nil fun _ => rfl) (c_lenBL ?_)
  · tm_at "go"
  · refine EvE.conv (EvE.comp (σf := []) (fun x => [("row", x)]) notEq61 id (a := .lst ((splitC o).dropLast.map .bytes)) ?_ i_list rfl (by decide) rfl (by decide) .nil ?_ (fun Cf x hx => .name (stored_local rfl rfl)) (.inr ⟨_, rfl, fun Cf x hx => ?_⟩) (fun Cf x hx h => ?_) ?_ (fun _ => rfl) (fun _ _ _ _ h => by simp at h)) ?_
    · refine EvE.conv (p := .lst ((cut (splitC o) none (some (-1))).map .bytes)) ?_ (by rw [cut_init])
      tm_at "go"
      all_goals (try tm_at "side")
    · exact fun m c h => by cases h
    · obtain ⟨i, hi⟩ := List.mem_iff_getElem?.mp hx
      obtain ⟨b, hb, rfl⟩ := bytes_at hi
      have := hle.2 b (List.dropLast_subset _ (List.mem_of_getElem? hb))
      refine EvB.conv (p := (cut b (some (-1)) none != [61])) ?_ (by rw [cut_last]; rfl)
      tm_at "go"
      all_goals (try tm_at "side")
    · obtain ⟨i, hi⟩ := List.mem_iff_getElem?.mp hx
      obtain ⟨b, hb, rfl⟩ := bytes_at hi
      refine ⟨?_, rfl⟩
      show EvE C _ _ _ _ (.bytes b)
      tm_at "go"
    · rw [List.length_map]; omega
    · rw [List.map_id, List.filter_map]
      rfl
  · have := List.length_filter_le (fun r : List UInt8 => r.drop (r.length - 1) != [61]) (splitC o).dropLast
    omega
end
/-- a row as the law asks it -/
noncomputable def GoodRow (r : List UInt8) : Prop := r.length ≤ 76 ∧ r.drop (r.length - 1) ≠ [32] ∧ r.drop (r.length - 1) ≠ [9] ∧ ∀ c ∈ r, (32 ≤ c.toNat ∨ c.toNat = 9) ∧ c.toNat ≤ 126
/-- a sign of the alphabet -/
noncomputable def signOk (c : UInt8) : Bool := Txt.isalnum ⟨#[c.toNat]⟩ || (c == 43 || c == 47)
/-- what the plain law tells -/
structure Facts (o : List UInt8) (t : Bool) : Prop where
  g7b : Good7 (b64 o)
  g7q : Good7 (quotedEnc o t)
  unB : decB (b64 o) = o
  unQ : qDec (quotedEnc o t) = o
  lenB : (b64 o).length ≤ 3000
  lenQ : (quotedEnc o t).length ≤ 3000
  rowB : ∀ r ∈ splitC (b64 o), GoodRow r
  rowQ : ∀ r ∈ splitC (quotedEnc o t), GoodRow r
  full : ∀ r ∈ (splitC (b64 o)).dropLast, r.length = 76
  last : ∀ r, (splitC (b64 o)).getLast? = some r → r.length % 4 = 0
  pads : (splitC (b64 o)).flatten.length - (rstripB (splitC (b64 o)).flatten [61]).length ≤ 2
  sign : ∀ c ∈ rstripB (splitC (b64 o)).flatten [61], signOk c = true
  ends : hardEnds (quotedEnc o t) = if t then (splitC o).length - 1 else 0

/-! rows joined by CR LF -/
theorem splitC_ne (l : List UInt8) : splitC l ≠ [] := by
  match l with
  | [] => simp [splitC]
  | [c] => simp [splitC]
  | c :: d :: r =>
    by_cases q : c = 13 ∧ d = 10
    · rw [splitC_two q]; simp
    · rw [splitC_one q]
      split <;> simp

noncomputable abbrev inter (rows : List (List UInt8)) : List UInt8 := ([13, 10] : List UInt8).intercalate rows
theorem inter_one (a : List UInt8) : inter [a] = a := by simp [inter, List.intercalate]
theorem inter_two (a b : List UInt8) (r : List (List UInt8)) : inter (a :: b :: r) = a ++ 13 :: 10 :: inter (b :: r) := by simp [inter, List.intercalate]
theorem splitC_clean : ∀ {r : List UInt8}, (13 : UInt8) ∉ r → splitC r = [r]
  | [], _ => by simp [splitC]
  | [c], _ => by simp [splitC]
  | c :: d :: r, h => by
    have hc : ¬ (c = 13 ∧ d = 10) := fun q => h (by rw [q.1]; exact .head _)
    rw [splitC_one hc, splitC_clean (r := d :: r) fun q => h (.tail _ q)]
theorem splitC_crlf : ∀ {r rest : List UInt8}, (13 : UInt8) ∉ r → splitC (r ++ 13 :: 10 :: rest) = r :: splitC rest
  | [], rest, _ => by rw [List.nil_append, splitC_two ⟨rfl, rfl⟩]
  | c :: r, rest, h => by
    have hc : c ≠ 13 := fun q => h (by rw [q]; exact .head _)
    have ih := splitC_crlf (r := r) (rest := rest) fun q => h (.tail _ q)
    cases r with
    | nil =>
      rw [List.nil_append] at ih
      rw [List.cons_append, List.nil_append, splitC_one fun q => hc q.1, ih]
    | cons d r =>
      rw [List.cons_append] at ih
      rw [List.cons_append, List.cons_append, splitC_one fun q => hc q.1, ih]
theorem splitC_inter : ∀ {rows : List (List UInt8)}, rows ≠ [] → (∀ r ∈ rows, (13 : UInt8) ∉ r) → splitC (inter rows) = rows
  | [], h, _ => absurd rfl h
  | [a], _, h => by rw [inter_one, splitC_clean (h a (.head _))]
  | a :: b :: r, _, h => by
    rw [inter_two, splitC_crlf (h a (.head _)), splitC_inter (by simp) fun x hx => h x (.tail _ hx)]
noncomputable def lpRows : List (List UInt8) → List (List UInt8 × List UInt8)
  | [] => []
  | [a] => [(a, [])]
  | a :: b :: r => (a, [13, 10]) :: lpRows (b :: r)
theorem lp_step {a rest : List UInt8} (h : (10 : UInt8) ∉ a) : lp (a ++ 13 :: 10 :: rest) = (a, [13, 10]) :: lp rest := by
  have hm : (10 : UInt8) ∈ a ++ 13 :: 10 :: rest := by simp
  have hi : (a ++ 13 :: 10 :: rest).idxOf 10 = a.length + 1 := by
    rw [List.idxOf_append, if_neg h]
    simp [List.idxOf_cons]
    omega
  rw [lp_yes hm, hi]
  have hg : (a ++ 13 :: 10 :: rest).getD (a.length + 1 - 1) 0 = 13 := by simp [List.getD_eq_getElem?_getD]
  rw [if_pos ⟨Nat.succ_pos _, hg⟩]
  have ht : (a ++ 13 :: 10 :: rest).take (a.length + 1 - 1) = a := by simp
  have hd : (a ++ 13 :: 10 :: rest).drop (a.length + 1 + 1) = rest := by
    rw [List.drop_append, List.drop_eq_nil_iff.mpr (by omega), show a.length + 1 + 1 - a.length = 2 by omega]
    rfl
  rw [ht, hd]
theorem lp_inter : ∀ {rows : List (List UInt8)}, rows ≠ [] → (∀ r ∈ rows, (10 : UInt8) ∉ r) → lp (inter rows) = lpRows rows
  | [], h, _ => absurd rfl h
  | [a], _, h => by rw [inter_one, lp_no (h a (.head _))]; rfl
  | a :: b :: r, _, h => by
    rw [inter_two, lp_step (h a (.head _)), lp_inter (by simp) fun x hx => h x (.tail _ hx)]; rfl
theorem lpRows_mem : ∀ {rows : List (List UInt8)} {p : List UInt8 × List UInt8}, p ∈ lpRows rows → p.1 ∈ rows
  | [], p, h => by cases h
  | [a], p, h => by
    rw [List.mem_singleton.mp h]; exact .head _
  | a :: b :: r, p, h => by
    rcases List.mem_cons.mp h with rfl | h
    · exact .head _
    · exact .tail _ (lpRows_mem h)
/-- the first half of Good7 -/
noncomputable def Sev (d : List UInt8) : Prop := ∀ (i : Nat) (c : UInt8), d[i]? = some c → c ≠ 0 ∧ c.toNat ≤ 127 ∧ (c = 13 → d[i + 1]? = some 10) ∧ (c = 10 → 0 < i ∧ d[i - 1]? = some 13)
noncomputable def Clean (r : List UInt8) : Prop := ∀ c ∈ r, (32 ≤ c.toNat ∨ c.toNat = 9) ∧ c.toNat ≤ 126
theorem Clean.ne {r : List UInt8} (h : Clean r) {c : UInt8} (hc : c ∈ r) : c ≠ 0 ∧ c ≠ 13 ∧ c ≠ 10 := by
  have := h c hc
  refine ⟨?_, ?_, ?_⟩
  all_goals (rintro rfl; revert this; decide)
theorem Clean.no {r : List UInt8} (h : Clean r) : (13 : UInt8) ∉ r ∧ (10 : UInt8) ∉ r := ⟨fun q => (h.ne q).2.1 rfl, fun q => (h.ne q).2.2 rfl⟩
theorem Sev.clean {r : List UInt8} (h : Clean r) : Sev r := fun i c e => by
  have hm := List.mem_of_getElem? e
  have := h c hm
  obtain ⟨a, b, d⟩ := h.ne hm
  exact ⟨a, by omega, fun q => absurd q b, fun q => absurd q d⟩
theorem Sev.step {a rest : List UInt8} (h : Clean a) (hr : Sev rest) : Sev (a ++ 13 :: 10 :: rest) := fun i c e => by
  by_cases hi : i < a.length
  · rw [List.getElem?_append_left hi] at e
    have hm := List.mem_of_getElem? e
    have := h c hm
    obtain ⟨a, b, d⟩ := h.ne hm
    exact ⟨a, by omega, fun q => absurd q b, fun q => absurd q d⟩
  · obtain ⟨j, rfl⟩ : ∃ j, i = a.length + j := ⟨i - a.length, by omega⟩
    have key : ∀ k, (a ++ 13 :: 10 :: rest)[a.length + k]? = (13 :: 10 :: rest)[k]? := fun k => by
      rw [List.getElem?_append_right (by omega), show a.length + k - a.length = k by omega]
    rw [key] at e
    match j, e with
    | 0, e =>
      cases e
      refine ⟨by decide, by decide, fun _ => ?_, fun q => absurd q (by decide)⟩
      rw [show a.length + 0 + 1 = a.length + 1 by omega, key]; rfl
    | 1, e =>
      cases e
      refine ⟨by decide, by decide, fun q => absurd q (by decide), fun _ => ⟨by omega, ?_⟩⟩
      rw [show a.length + 1 - 1 = a.length + 0 by omega, key]; rfl
    | j + 2, e =>
      have e' : rest[j]? = some c := by simpa using e
      obtain ⟨h1, h2, h3, h4⟩ := hr j c e'
      refine ⟨h1, h2, fun q => ?_, fun q => ⟨by omega, ?_⟩⟩
      · rw [show a.length + (j + 2) + 1 = a.length + (j + 1 + 2) by omega, key]
        simpa using h3 q
      · obtain ⟨hp, h5⟩ := h4 q
        rw [show a.length + (j + 2) - 1 = a.length + (j - 1 + 2) by omega, key]
        simpa using h5
theorem Sev.inter : ∀ {rows : List (List UInt8)}, (∀ r ∈ rows, Clean r) → Sev (inter rows)
  | [], _ => fun i c e => by simp [Mine.inter, List.intercalate] at e
  | [a], h => by rw [inter_one]; exact .clean (h a (.head _))
  | a :: b :: r, h => by
    rw [inter_two]
    exact .step (h a (.head _)) (Sev.inter fun x hx => h x (.tail _ hx))
theorem rows_told {rows : List (List UInt8)} (hne : rows ≠ []) (h : ∀ r ∈ rows, GoodRow r) : splitC (inter rows) = rows ∧ Good7 (inter rows) ∧ lp (inter rows) = lpRows rows := by
  have hc : ∀ r ∈ rows, Clean r := fun r hr => (h r hr).2.2.2
  have hl := lp_inter hne fun r hr => (hc r hr).no.2
  refine ⟨splitC_inter hne fun r hr => (hc r hr).no.1, ⟨Sev.inter hc, fun p hp => ?_⟩, hl⟩
  rw [hl] at hp
  have := (h _ (lpRows_mem hp)).1
  omega
noncomputable def lawDef : Option (List Stmt × Scope) := match PySem.Challenge.pw_or0049_01.main.body.getLast? with | some (.FunctionDef _ _ body _ _ _ scope _ _ _) => some (body, scope) | _ => none

section
variable {C : Cx} {n : Nat}
theorem g_last {p : PV} {l : List PV} {x : PV} (e : p.items? = some l) (hx : l.getLast? = some x) (hz : l.length ≤ 16777216) : Op2 C n getItem p (.int (-1)) x := by
  intro A P s v u _ _ _ r r'
  obtain ⟨a, vs, rfl, hl, hr⟩ := r.items_inv e
  obtain ⟨t', rfl⟩ := r'.int_inv
  have hlen := hr.length
  rw [List.getLast?_eq_getElem?] at hx
  obtain ⟨y, hy, ry⟩ := hr.get hx
  have hlt := (List.getElem?_eq_some_iff.mp hx).1
  refine wpAny_getItem_list_neg (x := y) hl.isList (by omega) ?_ ?_ ?_ ⟨.inl ry, keepsRefl s⟩
  · rw [List.size_toArray]; omega
  · decide
  · rw [List.size_toArray, show (-1 + (vs.length : Int)).toNat = l.length - 1 by omega]
    simpa using hy
end
section
variable {C : Cx} {n : Nat} {env : Env} {σ : Loc}
theorem RepAll_of {P : List Addr} {h : Heap} : ∀ {vs : List Value} {ns : List Int}, IntsAre vs ns → RepAll C P h vs (intL ns)
  | _, _, .nil => .nil
  | _, _, .cons k t r => .cons (.int k t) (RepAll_of r)
theorem e_script {a : Addr} {ws : List Value} {xs : List Int} {x : Str} {p1 p2 p3 p4 : Pos} {z : Nat} (hL : C.g.IsList a ws.toArray) (hI : IntsAre ws xs) (hs : σ.lookup x = some (.val (.ref a))) (hk : env.scope.kind = .function) (hd : (x == ("__debug__" : Str)) = false) (hz : ws.length ≤ 1000) :
    EvE C n env σ (.Subscript (.Name x p1) (.Slice none (some (.Constant (.int 40) z p2)) none p3) p4) (.lst (intL (xs.take 40))) := by
  intro A Pout W s hA S
  refine Subscript_ ?_
  refine wpAny_mono (EvE.name (n := n) hs hk hd A Pout W s hA S) (fun v s₁ h₁ => ?_) fun _ _ x => x
  rw [h₁.1.val_inv]
  have S₁ := S.quiet h₁.2
  refine wpAny_mono (EvE.slice (n := n) (lo := none) (hi := some 40) EvP.none' (EvP.some' .cInt) A Pout W s₁ hA S₁) (fun u s₂ h₂ => ?_) fun _ _ x => x
  have S₂ := S₁.quiet h₂.2
  have hl : s₂.heap.IsList a ws.toArray := let ⟨o, e, q⟩ := hL; ⟨o, S₂.keep _ _ e, q⟩
  obtain ⟨sl, rfl, _, l', u, hs', hl', hu⟩ := h₂.1.slc_inv
  refine tail_any (ops := _) hl.typeIs list_getitem_lookup (wpAny_getItem_list_slice hl hs' hl' hu .none (by simp) ⟨.inl (.lst (vs := cut ws none (some 40)) S₂.priv.fresh ⟨0, ?_⟩ ?_), keepsTrans h₁.2 (keepsTrans h₂.2 ⟨_, _, rfl, KeepH.push _ _⟩)⟩ (by rw [sizeLine_eq, List.size_toArray]; omega)) rfl
  · rw [slicePick_plain]
    simp only [cut, List.size_toArray]
    exact Heap.get?_push_size _ rfl
  · rw [cut0N (y := 40) (b := 40) rfl, show intL (xs.take 40) = (intL xs).take 40 by unfold intL; rw [List.map_take]]
    exact ((RepAll_of hI).take 40)
end
section
variable {C : Cx} {n : Nat} {L fa : Addr} {cd : Value}
noncomputable abbrev lenv (scope : Scope) (L fa : Addr) (cd : Value) : Env := envOf "law" scope L fa cd

/-- the two ways in one -/
structure Way (C : Cx) (n : Nat) (o : List UInt8) (t : Bool) (way : Str) (f : List UInt8) : Prop where
  enc : CallR C (n + 5) (.ref 208) [.str way, .bytes o, .bool t] (.bytes f)
  und : CallR C (n + 5) (.ref 215) [.str way, .bytes f] (.bytes o)
  g7 : Good7 f
  len : f.length ≤ 3000
  row : ∀ r ∈ splitC f, GoodRow r

theorem way_b (S : Su C) {o : List UInt8} {t : Bool} (hz : o.length ≤ 240) (F : Facts o t) : Way C n o t "base64" (b64 o) :=
  ⟨in_encoding_b S o t (by omega), (undone_b S (b64 o) F.lenB).conv (by rw [F.unB]), F.g7b, F.lenB, F.rowB⟩
theorem way_q (S : Su C) {o : List UInt8} {t : Bool} (hz : o.length ≤ 240) (F : Facts o t) : Way C n o t "quoted-printable" (quotedEnc o t) :=
  ⟨in_encoding_q S o t (by omega), (undone_q S (quotedEnc o t) F.lenQ).conv (by rw [F.unQ]), F.g7q, F.lenQ, F.rowQ⟩
theorem EvX.conv {env : Env} {σ σ' : Loc} {e : Expr} {p q : PV} (h : EvX C n env σ e p σ') (k : p = q) : EvX C n env σ e q σ' := k ▸ h
set_option hygiene false in
local macro_rules | `(tactic| tm_at "calls") => `(tactic| with_reducible first | exact hw.enc | exact hw.und | refine' is_seven_bit_ok S _ ?_ ?_ | refine' hard_ends_ok S _ ?_ | exact in_encoding_b S _ _ (by omega) | exact in_encoding_q S _ _ (by omega))
/-- what the drawing loop keeps -/
noncomputable def Drawn (cs : List Int) (i : Nat) (τ : Loc) : Prop := ∃ (a : Nat) (o : List UInt8), a ≤ 1 + 2 * i ∧ o.length ≤ 48 * i ∧ Knows τ [("tape", .own [.lst (intL cs), .int (a : Int)]), ("octets", .bytes o)]
noncomputable def drawnCells (xs : List Int) : List Int := if (xs.take 40).isEmpty then [0] else xs.take 40
theorem drawnCells_len (xs : List Int) : 0 < (drawnCells xs).length ∧ (drawnCells xs).length ≤ 40 := by
  unfold drawnCells
  split
  · simp
  · rename_i h
    have : (xs.take 40).length ≤ 40 := by rw [List.length_take]; omega
    refine ⟨List.length_pos_iff.mpr fun e => h (by rw [e]; rfl), this⟩
theorem rep_len (m : List UInt8) : ∀ k : Nat, (List.replicate k m).flatten.length = k * m.length
  | 0 => by simp
  | k + 1 => by rw [List.replicate_succ, List.flatten_cons, List.length_append, rep_len m k, Nat.succ_mul, Nat.add_comm]
theorem law_ok (S : Su C) (facts : ∀ o t, o.length ≤ 240 → Facts o t) (xs : List Int) (hxs : xs.length ≤ 63) {sa : Addr} {ws : List Value} (hL : C.g.IsList sa ws.toArray) (hI : IntsAre ws xs) (body : List Stmt) (scope : Scope) (h : lawDef = some (body, scope)) :
    ExS C (n + 5) (lenv scope L fa cd) [("script", .val (.ref sa))] body (fun o => o = .ret (.bool true)) := by
  unfold lawDef at h
  conv at h => lhs; whnf
  injection h with h
  injection h with h1 h2
  subst h1 h2
  have hc := drawnCells_len xs
  have hdbg : (("tape" : Str) == "__debug__") = false := by decide
  generalize hcs : drawnCells xs = cs at hc
  -- the tape
  refine .cons (.newOwnL (ps := [.lst (intL cs), .int 0]) (.cons ?_ (.cons .cInt .nil fun _ => rfl) fun _ => rfl) rfl (Nat.le_of_ble_eq_true rfl) rfl rfl rfl (then_next ?_))
  · have hwl := hI.length
    have hl : (intL (xs.take 40)).length ≤ 16777216 := by unfold intL; rw [List.length_map, List.length_take]; omega
    refine EvE.conv (EvE.orL (b := !(intL (xs.take 40)).isEmpty) (p := .lst (intL (xs.take 40))) (q := .lst (intL [0])) ?_ (trL rfl hl) (fun _ => ?_)) ?_
    · refine EvE.call (ps := [.lst (intL (xs.take 40))]) ?_ KeepOf.type (.cons (e_script hL hI rfl rfl (by decide) (by omega)) .nil fun _ => rfl) (c_list hl)
      tm_at "go"
    · refine EvE.conv (p := .lst [.int 0]) ?_ rfl
      tm_at "go"
    · rw [← hcs]
      unfold drawnCells intL
      cases xs.take 40 with
      | nil => rfl
      | cons a b => rfl
  refine xs_assign (p := .bytes []) .cBytes rfl (stored_local rfl rfl) rfl ?_
  -- the draws
  have hd := drawV_range (cs := cs) (i := 0) (k := 6) (by decide)
  generalize hd6 : drawV cs 0 6 = d6 at hd
  refine xs_forX (σ₁ := [("tape", .own [.lst (intL cs), .int ((0 + 1 : Nat) : Int)]), ("octets", .bytes []), ("tape", .own [.lst (intL cs), .int 0]), ("script", .val (.ref sa))]) (a := .rng 0 d6.toNat 1) (xs := rngInts 0 d6.toNat 1) (Drawn cs) (fun x => [("k", x)]) (EvX.call1 (p := .int d6) ?_ KeepOf.type ?_ (c_range1 (by omega) (by omega)) rfl (fun _ => rfl)) (fun _ => rfl) i_rng (fun x hx => ?_) ⟨1, [], Nat.le_refl _, Nat.le_refl _, ?_⟩ (fun i x τ hx hJ => ?_) (fun τ hJ => ?_)
  · tm_at "go"
  · exact EvX.conv (EvX.draw S (i := 0) (cs := cs) rfl rfl rfl (by decide) rfl (by omega) (by omega) (by omega) (by decide)) (by rw [hd6])
  · exact .name (stored_local rfl rfl)
  · tm_at "go"
    all_goals rfl
  · obtain ⟨hi, rfl⟩ := rng_at0 hx
    obtain ⟨a, o, ha, ho, hk⟩ := hJ
    refine ExS.weaken ?_ hk.more
    have h12 := drawV_range (cs := cs) (i := a) (k := 12) (by decide)
    have h24 := drawV_range (cs := cs) (i := a + 1) (k := 24) (by decide)
    generalize hd12 : drawV cs a 12 = d12 at h12
    generalize hd24 : drawV cs (a + 1) 24 = d24 at h24
    obtain ⟨hm1, hm2⟩ := menu_small d12.toNat (by omega)
    have hrep := rep_len (menu.getD d12.toNat []) (1 + d24).toNat
    have hrl : (List.replicate (1 + d24).toNat (menu.getD d12.toNat [])).flatten.length ≤ 48 := by
      rw [hrep]
      exact Nat.le_trans (Nat.mul_le_mul (show (1 + d24).toNat ≤ 24 by omega) hm2) (by decide)
    refine .cons (.assignX (p := .bytes (o ++ (List.replicate (1 + d24).toNat (menu.getD d12.toNat [])).flatten)) (EvX.binop (EvX.of (p := .bytes o) ?_ rfl) (EvX.binop (a := .bytes (menu.getD d12.toNat [])) (b := .int (1 + d24)) (EvX.sub (EvX.of (p := .tup (menu.map .bytes)) ?_ rfl) (EvX.conv (EvX.draw S (i := a) (cs := cs) rfl rfl rfl hdbg rfl (by omega) (by omega) (by omega) (by decide)) (by rw [hd12])) Items.tup (menu_get h12.1 h12.2) rfl (fun _ _ => ⟨_, rfl⟩)) (EvX.binop (EvX.of .cInt rfl) (EvX.conv (EvX.draw S (i := a + 1) (cs := cs) rfl rfl rfl hdbg rfl (by omega) (by omega) (by omega) (by decide)) (by rw [hd24])) o_add rfl) (o_mulB hm1 (by omega) (by omega) (by omega)) rfl) (o_addB (by omega)) rfl) (stored_local rfl rfl) ?_ rfl)
    · tm_at "go"
    · exact S.n_menu rfl rfl rfl
    · refine then_next (xs_nil' (turn_next ⟨a + 1 + 1, o ++ (List.replicate (1 + d24).toNat (menu.getD d12.toNat [])).flatten, ?_, ?_, ?_⟩))
      rotate_left 2
      · tm_at "go"
        all_goals rfl
      · omega
      · rw [List.length_append]; omega
  · obtain ⟨a, o, ha, ho, hk⟩ := hJ
    rw [rng_len] at ha ho
    have ho' : o.length ≤ 240 := by omega
    refine ExS.weaken ?_ hk.all
    refine .cons (.assignX (p := .bool (drawV cs a 2 == 0)) (EvX.cmp (EvX.draw S (i := a) (cs := cs) rfl rfl rfl hdbg rfl (by omega) (by omega) (by omega) (by decide)) (EvX.of .cInt rfl) o_eq rfl rfl) (stored_local rfl rfl) (then_next ?_) rfl)
    generalize (drawV cs a 2 == 0) = t
    have F := facts o t ho'
    refine xs_forK (fun x => [("way", x)]) (fun i => [("octets", .bytes o), ("is_text", .bool t)]) (a := .tup [.str "base64", .str "quoted-printable"]) ?_ (fun _ => rfl) i_tup (fun x hx => .name (stored_local rfl rfl)) ?_ (fun i x hx => ?_) ?_
    · tm_at "go"
    · tm_at "go"
      all_goals rfl
    · obtain ⟨way, f, rfl, hw⟩ : ∃ way f, x = .str way ∧ Way C n o t way f := by
        match i, hx with
        | 0, hx => cases hx; exact ⟨_, _, rfl, way_b S ho' F⟩
        | 1, hx => cases hx; exact ⟨_, _, rfl, way_q S ho' F⟩
        | i + 2, hx => cases hx
      have hwl := hw.len
      have hsl := splitC_le _ f (Nat.le_refl _)
      refine xs_assign (p := .bytes f) ?_ rfl (stored_local rfl rfl) rfl ?_
      · tm_at "go"
      refine xs_if (b := false) (EvB.conv (p := (!true || ((o != o) || false))) ?_ (by simp)) (fun h => by cases h) (fun _ => xs_nil ?_)
      · tm_at "go"
        · omega
        · exact hw.g7
      refine xs_forK (fun x => [("row", x)]) (fun i => [("octets", .bytes o), ("is_text", .bool t)]) (a := .lst ((splitC f).map .bytes)) ?_ (fun _ => rfl) i_list (fun x hx => .name (stored_local rfl rfl)) ?_ (fun j y hy => ?_) ?_
      · tm_at "go"
        all_goals (try tm_at "side")
      · tm_at "go"
        all_goals rfl
      · obtain ⟨r, hr, rfl⟩ := bytes_at hy
        obtain ⟨g1, g2, g3, g4⟩ := hw.row r (List.mem_of_getElem? hr)
        refine xs_if (b := false) (EvB.conv (p := decide ((76 : Int) < (r.length : Int)) || ((([[32], [9]] : List (List UInt8)).contains (cut r (some (-1)) none)) || ((!decide (([] : List Int) = [])) || false))) (.or ?_ fun _ => .or ?_ fun _ => .or ?_ fun _ => .orNil) ?_) (fun h => by cases h) (fun _ => ?_)
        · tm_at "go"
          all_goals (try tm_at "side")
        · refine EvB.cmp (a := .bytes (cut r (some (-1)) none)) (b := .tup (([[32], [9]] : List (List UInt8)).map .bytes)) ?_ ?_ o_inB rfl
          · tm_at "go"
            all_goals (try tm_at "side")
          · refine EvE.conv (p := .tup [.bytes [32], .bytes [9]]) ?_ rfl
            tm_at "go"
        · refine EvB.cmp (a := .lst (intL [])) (b := .lst (intL [])) ?_ ?_ (o_neL rfl rfl) rfl
          · refine EvE.conv (EvE.comp (σf := []) (fun x => [("code", x)]) (fun _ => false) (fun _ => .none) (a := .bytes r) ?_ i_bytes rfl (by decide) rfl (by decide) .nil ?_ (fun Cf x hx => .name (stored_local rfl rfl)) (.inr ⟨_, rfl, fun Cf x hx => ?_⟩) (fun Cf x hx h => by cases h) ?_ (fun _ => rfl) (fun _ _ _ _ h => by simp at h)) (by simp [intL])
            · tm_at "go"
            · exact fun m c h => by cases h
            · obtain ⟨i, hi⟩ := List.mem_iff_getElem?.mp hx
              obtain ⟨c, hc, rfl⟩ := ints_at hi
              have hg := g4 c (List.mem_of_getElem? hc)
              refine EvB.conv (p := ((decide ((c.toNat : Int) < 32) && (((c.toNat : Int) != 9) && true)) || (decide ((126 : Int) < (c.toNat : Int)) || false))) ?_ ?_
              · tm_at "go"
              · rw [Bool.or_false, Bool.and_true, Bool.or_eq_false_iff]
                refine ⟨?_, by rw [decide_eq_false_iff_not]; omega⟩
                rcases hg.1 with h | h
                · rw [decide_eq_false (by omega)]; rfl
                · rw [h]; rfl
            · simp [intsOf]; omega
          · refine EvE.conv (p := .lst []) ?_ rfl
            tm_at "go"
        · rw [cut_last, decide_eq_false (by omega)]
          simp only [List.contains_cons, List.contains_nil, Bool.or_false, Bool.false_or, Bool.or_eq_false_iff, beq_eq_false_iff_ne, ne_eq]
          exact ⟨⟨g2, g3⟩, by simp⟩
        · tm_at "go"
          all_goals rfl
      · tm_at "go"
        all_goals rfl
    · have hbl := F.lenB
      have hsl := splitC_le _ (b64 o) (Nat.le_refl _)
      have hss := splitC_sum _ (b64 o) (Nat.le_refl _)
      unfold lsum at hss
      refine xs_assign (p := .lst ((splitC (b64 o)).map .bytes)) ?_ rfl (stored_local rfl rfl) rfl ?_
      · tm_at "go"
        all_goals (try tm_at "side")
      have hne := splitC_ne (b64 o)
      obtain ⟨r, hr⟩ : ∃ r, (splitC (b64 o)).getLast? = some r := ⟨_, List.getLast?_eq_some_getLast hne⟩
      have hr4 := F.last r hr
      have hrm : r ∈ splitC (b64 o) := List.mem_of_getLast? hr
      refine xs_if (b := false) (EvB.conv (p := ((!decide (([] : List Int) = [])) || ((((r.length % 4 : Nat) : Int) != 0) || false))) (.or ?_ fun _ => .or ?_ fun _ => .orNil) (by rw [hr4]; rfl)) (fun h => by cases h) (fun _ => xs_nil ?_)
      · refine EvB.cmp (a := .lst (intL [])) (b := .lst (intL [])) ?_ ?_ (o_neL rfl rfl) rfl
        · refine EvE.conv (EvE.comp (σf := []) (fun x => [("row", x)]) (fun _ => false) (fun _ => .none) (a := .lst ((splitC (b64 o)).dropLast.map .bytes)) ?_ i_list rfl (by decide) rfl (by decide) .nil ?_ (fun Cf x hx => .name (stored_local rfl rfl)) (.inr ⟨_, rfl, fun Cf x hx => ?_⟩) (fun Cf x hx h => by cases h) ?_ (fun _ => rfl) (fun _ _ _ _ h => by simp at h)) (by simp [intL])
          · refine EvE.conv (p := .lst ((cut (splitC (b64 o)) none (some (-1))).map .bytes)) ?_ (by rw [cut_init])
            tm_at "go"
            all_goals (try tm_at "side")
          · exact fun m c h => by cases h
          · obtain ⟨i, hi⟩ := List.mem_iff_getElem?.mp hx
            obtain ⟨b, hb, rfl⟩ := bytes_at hi
            have h76 := F.full b (List.mem_of_getElem? hb)
            refine EvB.conv (p := ((b.length : Int) != 76)) ?_ (by rw [h76]; rfl)
            tm_at "go"
            all_goals (try tm_at "side")
          · have := List.length_dropLast (xs := splitC (b64 o))
            rw [List.length_map]; omega
        · refine EvE.conv (p := .lst []) ?_ rfl
          tm_at "go"
      · refine EvB.cmp (a := .int ((r.length % 4 : Nat) : Int)) (b := .int 0) (EvE.conv (p := .int (Int.fmod (r.length : Int) 4)) (EvE.binop (EvE.call (ps := [.bytes r]) ?_ KeepOf.builtin (.cons (EvE.sub (a := .lst ((splitC (b64 o)).map .bytes)) (b := .int (-1)) ?_ ?_ Items.lst (g_last rfl ?_ ?_) (fun _ _ => ⟨_, rfl⟩)) .nil fun _ => rfl) (c_lenB ?_)) .cInt (o_mod (by decide))) (by rw [show (4 : Int) = ((4 : Nat) : Int) from rfl, fmodN])) .cInt o_ne rfl
        · tm_at "go"
        · tm_at "go"
        · tm_at "go"
        · rw [List.getLast?_map, hr]; rfl
        · rw [List.length_map]; omega
        · have := hsl.2 r hrm
          omega
      have hfl : ((splitC (b64 o)).flatten).length ≤ 3000 := by rw [List.length_flatten]; omega
      refine xs_assign (p := .bytes ((splitC (b64 o)).flatten)) (EvE.conv (p := .bytes (([] : List UInt8).intercalate (splitC (b64 o)))) ?_ (by rw [inter_nil])) rfl (stored_local rfl rfl) rfl ?_
      · tm_at "go"
        all_goals (try tm_at "side")
      have hpads := F.pads
      have hsign := F.sign
      generalize (splitC (b64 o)).flatten = sg at hfl hpads hsign
      refine xs_assign (p := .bytes (rstripB sg [61])) ?_ rfl (stored_local rfl rfl) rfl ?_
      · tm_at "go"
        all_goals (try tm_at "side")
      have hbl2 := rstrip_len sg [61]
      generalize rstripB sg [61] = bare at hpads hsign hbl2
      refine xs_if (b := false) (EvB.conv (p := (decide ((2 : Int) < (sg.length : Int) - (bare.length : Int)) || ((!decide (([] : List Int) = [])) || false))) (.or ?_ fun _ => .or ?_ fun _ => .orNil) (by rw [decide_eq_false (by omega)]; rfl)) (fun h => by cases h) (fun _ => xs_nil ?_)
      · tm_at "go"
        all_goals (try tm_at "side")
      · refine EvB.cmp (a := .lst (intL [])) (b := .lst (intL [])) ?_ ?_ (o_neL rfl rfl) rfl
        · refine EvE.conv (EvE.comp (σf := []) (fun x => [("code", x)]) (fun _ => false) (fun _ => .none) (a := .bytes bare) ?_ i_bytes rfl (by decide) rfl (by decide) .nil ?_ (fun Cf x hx => .name (stored_local rfl rfl)) (.inr ⟨_, rfl, fun Cf x hx => ?_⟩) (fun Cf x hx h => by cases h) ?_ (fun _ => rfl) (fun _ _ _ _ h => by simp at h)) (by simp [intL])
          · tm_at "go"
          · exact fun m c h => by cases h
          · obtain ⟨i, hi⟩ := List.mem_iff_getElem?.mp hx
            obtain ⟨c, hc, rfl⟩ := ints_at hi
            have hg := hsign c (List.mem_of_getElem? hc)
            have hcl := c.toNat_lt
            refine EvB.conv (p := ((!Txt.isalnum ⟨#[c.toNat]⟩) && ((!([43, 47] : List Int).contains (c.toNat : Int)) && true))) (.and (.not (EvE.plainTest (EvE.meth (a := .str ⟨#[c.toNat]⟩) (ps := []) (EvE.call (fv := .builtin "chr") (ps := [.int (c.toNat : Int)]) ?_ KeepOf.builtin (.cons ?_ .nil fun _ => rfl) ?_) m_isalnum .nil c_isalnum rfl) fun _ => rfl)) fun _ => .and ?_ fun _ => .andNil) ?_
            · tm_at "go"
            · tm_at "go"
            · exact (c_chr (by omega) (by omega)).conv (by rw [Int.toNat_natCast])
            · refine EvB.cmp (a := .int (c.toNat : Int)) (b := .tup (intL [43, 47])) ?_ ?_ o_notInI rfl
              · tm_at "go"
              · refine EvE.conv (p := .tup [.int 43, .int 47]) ?_ rfl
                tm_at "go"
            · unfold signOk at hg
              rw [Bool.or_eq_true, Bool.or_eq_true, beq_iff_eq, beq_iff_eq] at hg
              rcases hg with h | h | h
              · rw [h]; rfl
              · rw [h]; simp
              · rw [h]; simp
          · simp [intsOf]; omega
        · refine EvE.conv (p := .lst []) ?_ rfl
          tm_at "go"
      have hql := F.lenQ
      refine xs_assign (p := .bytes (quotedEnc o t)) ?_ rfl (stored_local rfl rfl) rfl ?_
      · tm_at "go"
      have hsl2 := splitC_le _ o (Nat.le_refl _)
      have hne2 := splitC_ne o
      have hl2 : 0 < (splitC o).length := List.length_pos_iff.mpr hne2
      refine xs_ret (p := .bool true) (EvE.conv (p := .bool ((hardEnds (quotedEnc o t) : Int) == (bif t then ((splitC o).length : Int) - 1 else 0))) (EvE.cmp (a := .int (hardEnds (quotedEnc o t) : Int)) (b := .int (bif t then ((splitC o).length : Int) - 1 else 0)) ?_ (EvE.iteI (b := t) ?_ (fun _ => ?_) (fun _ => ?_)) o_eq rfl) ?_) rfl rfl
      · tm_at "go"
        omega
      · tm_at "go"
      · tm_at "go"
        all_goals (try tm_at "side")
      · tm_at "go"
      · rw [F.ends]
        congr 1
        rw [beq_iff_eq]
        cases t with
        | true =>
          rw [if_pos rfl, cond_true]; omega
        | false =>
          rw [if_neg (by decide), cond_false]; rfl
end
/-! parts of a list -/
theorem chunks_nil {w : Nat} (hw : 0 < w) : chunks w [] = [] := by
  unfold chunks
  rw [List.length_nil, Nat.zero_add, Nat.div_eq_of_lt (by omega)]; rfl
theorem chunks_step {w : Nat} (hw : 0 < w) {l : List UInt8} (h : l ≠ []) : chunks w l = l.take w :: chunks w (l.drop w) := by
  have hp : 0 < l.length := List.length_pos_iff.mpr h
  have hn : (l.length + (w - 1)) / w = ((l.drop w).length + (w - 1)) / w + 1 := by
    rw [List.length_drop]
    by_cases hle : l.length ≤ w
    · rw [show l.length - w = 0 by omega, Nat.zero_add, Nat.div_eq_of_lt (show w - 1 < w by omega)]
      exact Nat.div_eq_of_lt_le (by omega) (by omega)
    · rw [show l.length + (w - 1) = (l.length - w + (w - 1)) + w by omega, Nat.add_div_right _ hw]
  unfold chunks
  rw [hn, List.range_succ_eq_map, List.map_cons, List.map_map]
  congr 1
  apply List.map_congr_left
  intro i _
  simp only [chunk, Function.comp_apply, List.drop_drop]
  rw [Nat.succ_eq_add_one, Nat.mul_succ, Nat.add_comm]
theorem chunks_ind {w : Nat} (hw : 0 < w) {P : List UInt8 → Prop} (h0 : P []) (hs : ∀ l, l ≠ [] → P (l.drop w) → P l) (l : List UInt8) : P l := by
  have key : ∀ (n : Nat) (l : List UInt8), l.length ≤ n → P l := by
    intro n
    induction n with
    | zero =>
      intro l h
      rw [List.eq_nil_of_length_eq_zero (Nat.le_zero.mp h)]; exact h0
    | succ n ih =>
      intro l h
      by_cases hl : l = []
      · rw [hl]; exact h0
      · refine hs l hl (ih _ ?_)
        have := List.length_pos_iff.mpr hl
        rw [List.length_drop]; omega
  exact key _ l (Nat.le_refl _)
theorem chunks_flat {w : Nat} (hw : 0 < w) (l : List UInt8) : (chunks w l).flatten = l := by
  induction l using chunks_ind hw with
  | h0 => rw [chunks_nil hw]; rfl
  | hs l hl ih => rw [chunks_step hw hl, List.flatten_cons, ih, List.take_append_drop]
theorem chunks_mem {w : Nat} (hw : 0 < w) (l : List UInt8) : ∀ r ∈ chunks w l, r.length ≤ w ∧ ∀ c ∈ r, c ∈ l := by
  induction l using chunks_ind hw with
  | h0 => rw [chunks_nil hw]; intro r h; cases h
  | hs l hl ih =>
    rw [chunks_step hw hl]
    intro r h
    rcases List.mem_cons.mp h with rfl | h
    · exact ⟨by rw [List.length_take]; omega, fun c hc => List.mem_of_mem_take hc⟩
    · exact ⟨(ih r h).1, fun c hc => List.mem_of_mem_drop ((ih r h).2 c hc)⟩
theorem chunks_ne {w : Nat} (hw : 0 < w) {l : List UInt8} (h : l ≠ []) : chunks w l ≠ [] := by rw [chunks_step hw h]; simp
theorem chunks_full {w : Nat} (hw : 0 < w) (l : List UInt8) : ∀ r ∈ (chunks w l).dropLast, r.length = w := by
  induction l using chunks_ind hw with
  | h0 => rw [chunks_nil hw]; intro r h; cases h
  | hs l hl ih =>
    rw [chunks_step hw hl]
    by_cases hd : l.drop w = []
    · rw [hd, chunks_nil hw]; intro r h; cases h
    · intro r h
      rw [List.dropLast_cons_of_ne_nil (chunks_ne hw hd)] at h
      rcases List.mem_cons.mp h with rfl | h
      · have := List.length_pos_iff.mpr hd
        rw [List.length_drop] at this
        rw [List.length_take]; omega
      · exact ih r h
theorem chunks_last {w : Nat} (hw : 0 < w) (h4 : w % 4 = 0) (l : List UInt8) : l.length % 4 = 0 → ∀ r, (chunks w l).getLast? = some r → r.length % 4 = 0 := by
  induction l using chunks_ind hw with
  | h0 => rw [chunks_nil hw]; intro _ r h; cases h
  | hs l hl ih =>
    intro hm r h
    rw [chunks_step hw hl] at h
    by_cases hd : l.drop w = []
    · rw [hd, chunks_nil hw] at h
      have h' : l.take w = r := by simpa using h
      have : l.length ≤ w := List.drop_eq_nil_iff.mp hd
      rw [← h', List.length_take, Nat.min_eq_right this]; exact hm
    · refine ih ?_ r ?_
      · have := List.length_pos_iff.mpr hd
        rw [List.length_drop] at this ⊢
        omega
      · rw [List.getLast?_cons] at h
        have hne := chunks_ne hw hd
        rw [List.getLast?_eq_some_getLast hne] at h ⊢
        simpa using h

/-! the one line -/
theorem sign_mem (k : Nat) (h : k < 64) : signs.getD k 0 ∈ signs := by
  rw [List.getD_eq_getElem?_getD, List.getElem?_eq_getElem (show k < signs.length from h), Option.getD_some]
  exact List.getElem_mem _
theorem signAt_mem (T p : Nat) : signAt T p ∈ signs := sign_mem _ (and63_lt _)
theorem groupCodes_mem (o : List UInt8) : ∀ c ∈ groupCodes o, c ∈ signs := by
  intro c h
  unfold groupCodes at h
  obtain ⟨i, _, rfl⟩ := List.mem_map.mp h
  exact signAt_mem _ _
theorem partEnc_nil : partEnc [] = [] := by
  unfold partEnc
  rw [chunks_nil (by decide)]; rfl
theorem partEnc_step {o : List UInt8} (h : o ≠ []) : partEnc o = groupCodes (o.take 3) ++ partEnc (o.drop 3) := by
  unfold partEnc
  rw [chunks_step (by decide) h]; rfl
theorem partEnc_mem (o : List UInt8) : ∀ c ∈ partEnc o, c ∈ signs := by
  induction o using chunks_ind (w := 3) (by decide) with
  | h0 => rw [partEnc_nil]; intro c h; cases h
  | hs o ho ih =>
    rw [partEnc_step ho]
    intro c h
    rcases List.mem_append.mp h with h | h
    · exact groupCodes_mem _ c h
    · exact ih c h
theorem partEnc_length (o : List UInt8) : (partEnc o).length = 4 * (o.length / 3) + (if o.length % 3 = 0 then 0 else o.length % 3 + 1) := by
  induction o using chunks_ind (w := 3) (by decide) with
  | h0 => rw [partEnc_nil]; rfl
  | hs o ho ih =>
    have hp := List.length_pos_iff.mpr ho
    rw [partEnc_step ho, List.length_append, groupCodes_len, ih, List.length_take, List.length_drop]
    split <;> split <;> omega
theorem sign_told : ∀ c ∈ signs, signOk c = true ∧ c ≠ 61 ∧ 33 ≤ c.toNat ∧ c.toNat ≤ 126 := by decide +kernel
theorem oneLine_mem (o : List UInt8) : ∀ c ∈ oneLine o, 33 ≤ c.toNat ∧ c.toNat ≤ 126 := by
  intro c h
  unfold oneLine at h
  rcases List.mem_append.mp h with h | h
  · exact (sign_told c (partEnc_mem o c h)).2.2
  · rw [List.eq_of_mem_replicate h]; decide
theorem oneLine_four (o : List UInt8) : (oneLine o).length % 4 = 0 := by
  unfold oneLine
  rw [List.length_append, List.length_replicate, partEnc_length]
  split <;> omega
theorem rstrip_pads {a : List UInt8} (h : ∀ c ∈ a, c ≠ 61) (k : Nat) : rstripB (a ++ List.replicate k 61) [61] = a := by
  unfold rstripB
  rw [List.reverse_append, List.reverse_replicate]
  have key : ∀ (k : Nat) (b : List UInt8), (∀ c ∈ b, c ≠ 61) → (List.replicate k (61 : UInt8) ++ b).dropWhile ([61] : List UInt8).contains = b := by
    intro k
    induction k with
    | zero =>
      intro b hb
      rw [List.replicate_zero, List.nil_append]
      cases b with
      | nil => rfl
      | cons c r =>
        have := hb c (.head _)
        rw [List.dropWhile_cons, if_neg (by simpa using this)]
    | succ k ih =>
      intro b hb
      rw [List.replicate_succ, List.cons_append, List.dropWhile_cons, if_pos (by decide)]
      exact ih b hb
  rw [key k a.reverse fun c hc => h c (List.mem_reverse.mp hc), List.reverse_reverse]
theorem bare_told (o : List UInt8) : rstripB (oneLine o) [61] = partEnc o := rstrip_pads (fun c hc => (sign_told c (partEnc_mem o c hc)).2.1) _

/-! the rows -/
noncomputable def rowsB (o : List UInt8) : List (List UInt8) := if oneLine o = [] then [[]] else chunks 76 (oneLine o)
theorem b64_rows (o : List UInt8) : b64 o = inter (rowsB o) := by
  unfold b64 inLines rowsB
  split
  · rename_i h
    rw [h, chunks_nil (by decide)]; rfl
  · rfl
theorem rowsB_ne (o : List UInt8) : rowsB o ≠ [] := by
  unfold rowsB
  split
  · simp
  · rename_i h
    exact chunks_ne (by decide) h
theorem rowsB_flat (o : List UInt8) : (rowsB o).flatten = oneLine o := by
  unfold rowsB
  split
  · rename_i h
    rw [h]; rfl
  · exact chunks_flat (by decide) _
theorem last_mem {r : List UInt8} {c : UInt8} (h : r.drop (r.length - 1) = [c]) : c ∈ r := List.mem_of_mem_drop (by rw [h]; exact .head _)
theorem rowsB_good (o : List UInt8) : ∀ r ∈ rowsB o, GoodRow r := by
  have key : ∀ r ∈ rowsB o, r.length ≤ 76 ∧ ∀ c ∈ r, c ∈ oneLine o := by
    unfold rowsB
    split
    · intro r h
      rw [List.mem_singleton.mp h]
      exact ⟨Nat.zero_le _, fun c hc => by cases hc⟩
    · exact chunks_mem (by decide) _
  intro r hr
  obtain ⟨h1, h2⟩ := key r hr
  have h3 : ∀ c ∈ r, 33 ≤ c.toNat ∧ c.toNat ≤ 126 := fun c hc => oneLine_mem o c (h2 c hc)
  refine ⟨h1, fun e => ?_, fun e => ?_, fun c hc => ⟨.inl ?_, (h3 c hc).2⟩⟩
  · exact absurd (h3 _ (last_mem e)).1 (by decide)
  · exact absurd (h3 _ (last_mem e)).1 (by decide)
  · have := (h3 c hc).1
    omega
theorem rowsB_full (o : List UInt8) : ∀ r ∈ (rowsB o).dropLast, r.length = 76 := by
  unfold rowsB
  split
  · intro r h; cases h
  · exact chunks_full (by decide) _
theorem rowsB_last (o : List UInt8) : ∀ r, (rowsB o).getLast? = some r → r.length % 4 = 0 := by
  unfold rowsB
  split
  · intro r h; cases h; rfl
  · exact chunks_last (by decide) (by decide) _ (oneLine_four o)

/-! the way back -/
theorem wr_61 (r : List UInt8) : worthRow (61 :: r) = [] := rfl
theorem wr_cons {c : UInt8} (h : c ≠ 61) (r : List UInt8) : worthRow (c :: r) = (sixOf c).toList ++ worthRow r := by
  unfold worthRow sixes
  rw [List.takeWhile_cons, if_pos (by simpa using h), List.filterMap_cons]
  cases sixOf c <;> rfl
theorem wr_congr {x y : List UInt8} (h : worthRow x = worthRow y) : ∀ a : List UInt8, worthRow (a ++ x) = worthRow (a ++ y)
  | [] => h
  | c :: a => by
    by_cases hc : c = 61
    · rw [hc]; rfl
    · rw [List.cons_append, List.cons_append, wr_cons hc, wr_cons hc, wr_congr h a]
theorem wr_crlf (r : List UInt8) : worthRow (13 :: 10 :: r) = worthRow r := by
  rw [wr_cons (by decide), wr_cons (by decide)]; rfl
theorem wr_inter : ∀ rows : List (List UInt8), worthRow (inter rows) = worthRow rows.flatten
  | [] => rfl
  | [a] => by rw [inter_one]; simp
  | a :: b :: r => by
    rw [inter_two, List.flatten_cons]
    refine wr_congr ?_ a
    rw [wr_crlf, wr_inter (b :: r)]
theorem wr_signs {a : List UInt8} (h : ∀ c ∈ a, c ≠ 61) (x : List UInt8) : worthRow (a ++ x) = sixes a ++ worthRow x := by
  induction a with
  | nil => rfl
  | cons c a ih =>
    rw [List.cons_append, wr_cons (h c (.head _)), ih fun c hc => h c (.tail _ hc)]
    unfold sixes
    rw [List.filterMap_cons]
    cases sixOf c <;> rfl
theorem wr_pads (k : Nat) : worthRow (List.replicate k 61) = [] := by
  cases k with
  | zero => rfl
  | succ k => rw [List.replicate_succ, wr_61]
theorem wr_b64 (o : List UInt8) : worthRow (b64 o) = sixes (partEnc o) := by
  rw [b64_rows, wr_inter, rowsB_flat]
  unfold oneLine
  rw [wr_signs fun c hc => (sign_told c (partEnc_mem o c hc)).2.1, wr_pads, List.append_nil]
theorem six_sign : ∀ k : Nat, k < 64 → sixOf (signs.getD k 0) = some k := by decide +kernel
noncomputable def nums (g : List UInt8) : List Nat := (List.range (g.length + 1)).map fun i => shifted g / 2 ^ (6 * (g.length - i)) &&& 63
theorem six_group (g : List UInt8) : sixes (groupCodes g) = nums g := by
  unfold sixes groupCodes nums
  rw [List.filterMap_map]
  have : (sixOf ∘ fun i => signAt (shifted g) (g.length - i)) = fun i => some (shifted g / 2 ^ (6 * (g.length - i)) &&& 63) := by
    funext i
    exact six_sign _ (and63_lt _)
  rw [this]
  exact congrFun List.filterMap_eq_map' _
theorem nums_len (g : List UInt8) : (nums g).length = g.length + 1 := by simp [nums]
theorem and63m (x : Nat) : x &&& 63 = x % 64 := Nat.and_two_pow_sub_one_eq_mod x 6
theorem and255m (x : Nat) : x &&& 255 = x % 256 := Nat.and_two_pow_sub_one_eq_mod x 8
theorem oct_of {x : Nat} {c : UInt8} (h : x % 256 = c.toNat) : (x &&& 255).toUInt8 = c := by
  rw [← UInt8.toNat_inj, octet_nat, and255m, h]
theorem octet_of {T p : Nat} {c : UInt8} (h : T / 2 ^ (8 * p) % 256 = c.toNat) : octetAt T p = c := oct_of h
theorem group_back1 (a : UInt8) : groupOctets (nums [a]) = [a] := by
  have ha := a.toNat_lt
  have hn : nums [a] = [a.toNat * 16 / 64 % 64, a.toNat * 16 % 64] := by
    simp [nums, shifted, total, List.range_succ, and63m]
  have hw : wholeOf (nums [a]) = a.toNat := by
    rw [hn]
    simp [wholeOf, spareOf, sixTotal]
    omega
  unfold groupOctets
  rw [hw, nums_len]
  show [octetAt _ 0] = _
  rw [octet_of (c := a) (by omega)]
theorem group_back2 (a b : UInt8) : groupOctets (nums [a, b]) = [a, b] := by
  have ha := a.toNat_lt
  have hb := b.toNat_lt
  have hn : nums [a, b] = [(256 * a.toNat + b.toNat) * 4 / 4096 % 64, (256 * a.toNat + b.toNat) * 4 / 64 % 64, (256 * a.toNat + b.toNat) * 4 % 64] := by
    simp [nums, shifted, total, List.range_succ, and63m]
  have hw : wholeOf (nums [a, b]) = 256 * a.toNat + b.toNat := by
    rw [hn]
    simp [wholeOf, spareOf, sixTotal]
    omega
  unfold groupOctets
  rw [hw, nums_len]
  show [octetAt _ 1, octetAt _ 0] = _
  rw [octet_of (p := 1) (c := a) (by omega), octet_of (p := 0) (c := b) (by omega)]
theorem group_back3 (a b c : UInt8) : groupOctets (nums [a, b, c]) = [a, b, c] := by
  have ha := a.toNat_lt
  have hb := b.toNat_lt
  have hc := c.toNat_lt
  have hn : nums [a, b, c] = [(256 * (256 * a.toNat + b.toNat) + c.toNat) / 262144 % 64, (256 * (256 * a.toNat + b.toNat) + c.toNat) / 4096 % 64, (256 * (256 * a.toNat + b.toNat) + c.toNat) / 64 % 64, (256 * (256 * a.toNat + b.toNat) + c.toNat) % 64] := by
    simp [nums, shifted, total, List.range_succ, and63m]
  have hw : wholeOf (nums [a, b, c]) = 256 * (256 * a.toNat + b.toNat) + c.toNat := by
    rw [hn]
    simp [wholeOf, spareOf, sixTotal]
    omega
  unfold groupOctets
  rw [hw, nums_len]
  show [octetAt _ 2, octetAt _ 1, octetAt _ 0] = _
  rw [octet_of (p := 2) (c := a) (by omega), octet_of (p := 1) (c := b) (by omega), octet_of (p := 0) (c := c) (by omega)]
theorem group_back (g : List UInt8) (h0 : g ≠ []) (h3 : g.length ≤ 3) : groupOctets (nums g) = g := by
  match g, h0, h3 with
  | [a], _, _ => exact group_back1 a
  | [a, b], _, _ => exact group_back2 a b
  | [a, b, c], _, _ => exact group_back3 a b c
  | a :: b :: c :: d :: r, _, h3 => simp at h3
theorem decGroups_nil : decGroups [] = [] := rfl
theorem decGroups_step {row : List Nat} (h : 1 < row.length) : decGroups row = groupOctets (row.take 4) :: decGroups (row.drop 4) := by
  have hn : (row.length + 3) / 4 = ((row.drop 4).length + 3) / 4 + 1 := by
    rw [List.length_drop]; omega
  unfold decGroups
  rw [hn, List.range_succ_eq_map, List.filter_cons, if_pos (by simpa using h), List.map_cons, List.filter_map, List.map_map]
  congr 1
  rw [List.length_drop]
  have e : ((fun i => decide (4 * i + 1 < row.length)) ∘ Nat.succ) = fun i => decide (4 * i + 1 < row.length - 4) := by
    funext i
    simp only [Function.comp_apply, decide_eq_decide]
    omega
  rw [e]
  apply List.map_congr_left
  intro i _
  simp only [Function.comp_apply, List.drop_drop]
  rw [Nat.succ_eq_add_one, Nat.mul_succ, Nat.add_comm]
theorem dec_back (o : List UInt8) : (decGroups (sixes (partEnc o))).flatten = o := by
  induction o using chunks_ind (w := 3) (by decide) with
  | h0 => rw [partEnc_nil]; rfl
  | hs o ho ih =>
    have hp := List.length_pos_iff.mpr ho
    have ht : (o.take 3).length = min 3 o.length := List.length_take
    have hne : o.take 3 ≠ [] := fun e => by rw [e, List.length_nil] at ht; omega
    have hs : sixes (partEnc o) = nums (o.take 3) ++ sixes (partEnc (o.drop 3)) := by
      rw [partEnc_step ho, ← six_group]
      unfold sixes
      rw [List.filterMap_append]
    have hl := nums_len (o.take 3)
    have back := group_back (o.take 3) hne (by omega)
    rw [hs, decGroups_step (by rw [List.length_append]; omega)]
    by_cases h3 : 3 ≤ o.length
    · have h4 : (nums (o.take 3)).length = 4 := by omega
      rw [List.take_append_of_le_length (by omega), List.take_of_length_le (by omega), List.drop_append_of_le_length (by omega), List.drop_eq_nil_iff.mpr (by omega), List.nil_append, List.flatten_cons, ih, back, List.take_append_drop]
    · have hd : o.drop 3 = [] := List.drop_eq_nil_iff.mpr (by omega)
      rw [hd, partEnc_nil]
      have : sixes [] = [] := rfl
      rw [this, List.append_nil, List.take_of_length_le (by omega), List.drop_eq_nil_iff.mpr (by omega), decGroups_nil, back, List.take_of_length_le (by omega)]
      simp
theorem decB_b64 (o : List UInt8) : decB (b64 o) = o := by
  unfold decB
  rw [wr_b64, dec_back]
theorem b64_len (o : List UInt8) (h : o.length ≤ 240) : (b64 o).length ≤ 3000 := by
  have h1 := oneLine_len o
  have h2 := chunks_sum 76 (oneLine o)
  have h3 := chunks_len 76 (oneLine o)
  have h4 : (([13, 10] : List UInt8).intercalate (chunks 76 (oneLine o))).length ≤ ((chunks 76 (oneLine o)).map List.length).sum + 2 * (chunks 76 (oneLine o)).length := inter_len [13, 10] (chunks 76 (oneLine o))
  unfold b64 inLines
  omega
/-! pieces -/
noncomputable def e61 (r : List UInt8) : Bool := r.drop (r.length - 1) == [61]
theorem drop_last (a : List UInt8) (c : UInt8) : (a ++ [c]).drop ((a ++ [c]).length - 1) = [c] := by
  rw [List.length_append, List.length_singleton, Nat.add_sub_cancel, List.drop_append, List.drop_length, Nat.sub_self]; rfl
theorem e61_snoc (a : List UInt8) (c : UInt8) : e61 (a ++ [c]) = (c == 61) := by
  unfold e61
  rw [drop_last]
  by_cases h : c = 61 <;> simp [h]
theorem hex_back : ∀ k : Nat, k < 256 → 0 ≤ hexWorth ((hexes.getD (k / 16) 0).toNat : Int) ∧ 0 ≤ hexWorth ((hexes.getD (k % 16) 0).toNat : Int) ∧
    16 * hexWorth ((hexes.getD (k / 16) 0).toNat : Int) + hexWorth ((hexes.getD (k % 16) 0).toNat : Int) = (k : Int) := by decide +kernel
theorem hex_clean : ∀ k : Nat, k < 16 → 48 ≤ (hexes.getD k 0).toNat ∧ (hexes.getD k 0).toNat ≤ 126 ∧ hexes.getD k 0 ≠ 61 := by decide
theorem quotedAt_code (c : UInt8) (r : List UInt8) : quotedAt (quotedCode c.toNat ++ r) 0 = (c.toNat : Int) := by
  obtain ⟨h1, h2, h3⟩ := hex_back c.toNat c.toNat_lt
  have e1 : (quotedCode c.toNat ++ r).getD (0 + 1) 0 = hexes.getD (c.toNat / 16) 0 := rfl
  have e2 : (quotedCode c.toNat ++ r).getD (0 + 2) 0 = hexes.getD (c.toNat % 16) 0 := rfl
  unfold quotedAt
  rw [e1, e2, if_neg (by simp [quotedCode]), if_pos ⟨h1, h2⟩, h3]
theorem unq_code (c : UInt8) (r : List UInt8) : unq (quotedCode c.toNat ++ r) = c :: unq r := by
  have hq := quotedAt_code c r
  have e : quotedCode c.toNat ++ r = 61 :: (hexes.getD (c.toNat / 16) 0 :: hexes.getD (c.toNat % 16) 0 :: r) := rfl
  rw [e] at hq ⊢
  rw [unq_yes (by rw [hq]; omega), hq]
  congr 1
  rw [Int.toNat_natCast]
  simp
theorem plain_told (c : UInt8) (h : isPlain c.toNat = true) : c ≠ 61 ∧ (32 ≤ c.toNat ∨ c.toNat = 9) ∧ c.toNat ≤ 126 := by
  unfold isPlain at h
  simp only [Bool.or_eq_true, Bool.and_eq_true, beq_iff_eq, decide_eq_true_eq, bne_iff_ne, ne_eq] at h
  refine ⟨fun e => ?_, by omega, by omega⟩
  subst e
  revert h; decide
theorem byteAt_eq {L : List UInt8} {i : Nat} (h : i < L.length) : byteAt L i = L[i].toNat := by
  unfold byteAt
  rw [getD_of h]
theorem piece_unq {L : List UInt8} {i : Nat} (h : i < L.length) (r : List UInt8) : unq (pieceAt L i ++ r) = L[i] :: unq r := by
  unfold pieceAt
  rw [byteAt_eq h, getD_of h]
  split
  · rename_i hp
    have hp' := (Bool.and_eq_true _ _ ▸ hp).1
    exact unq_no fun q => (plain_told _ hp').1 q.1
  · exact unq_code _ r
theorem piece_clean {L : List UInt8} {i : Nat} (h : i < L.length) : Clean (pieceAt L i) := by
  unfold pieceAt
  rw [byteAt_eq h, getD_of h]
  have hlt := L[i].toNat_lt
  split
  · rename_i hp
    have hp' := (Bool.and_eq_true _ _ ▸ hp).1
    intro c hc
    rw [List.mem_singleton.mp hc]
    exact (plain_told _ hp').2
  · intro c hc
    have h1 := hex_clean (L[i].toNat / 16) (by omega)
    have h2 := hex_clean (L[i].toNat % 16) (by omega)
    unfold quotedCode at hc
    rcases List.mem_cons.mp hc with rfl | hc
    · exact ⟨.inl (by decide), by decide⟩
    · rcases List.mem_cons.mp hc with rfl | hc
      · exact ⟨.inl (by omega), h1.2.1⟩
      · rw [List.mem_singleton.mp hc]
        exact ⟨.inl (by omega), h2.2.1⟩
/-- how a piece ends -/
theorem piece_end {L : List UInt8} {i : Nat} (h : i < L.length) : ∃ a c, pieceAt L i = a ++ [c] ∧ c ≠ 61 ∧ (i + 1 = L.length → c ≠ 32 ∧ c ≠ 9) := by
  unfold pieceAt
  rw [byteAt_eq h, getD_of h]
  have hlt := L[i].toNat_lt
  split
  · rename_i hp
    obtain ⟨hp', hw⟩ := Bool.and_eq_true _ _ ▸ hp
    refine ⟨[], L[i], rfl, (plain_told _ hp').1, fun hl => ?_⟩
    rw [hl] at hw
    constructor
    · intro e
      rw [e] at hw
      revert hw; simp
    · intro e
      rw [e] at hw
      revert hw; simp
  · have h2 := hex_clean (L[i].toNat % 16) (by omega)
    refine ⟨[61, hexes.getD (L[i].toNat / 16) 0], hexes.getD (L[i].toNat % 16) 0, rfl, h2.2.2, fun _ => ⟨fun e => ?_, fun e => ?_⟩⟩
    · rw [e] at h2
      exact absurd h2.1 (by decide)
    · rw [e] at h2
      exact absurd h2.1 (by decide)
theorem pieces_getD {L : List UInt8} {i : Nat} (h : i < L.length) : (pieces L).getD i [] = pieceAt L i := by
  unfold pieces
  rw [List.getD_eq_getElem?_getD, List.getElem?_map, List.getElem?_range h]; rfl

/-! soft lines -/
noncomputable def dS (r : List UInt8) : List UInt8 := unq (r.take (r.length - 1))
theorem dS_snoc (a : List UInt8) (c : UInt8) : dS (a ++ [c]) = unq a := by
  unfold dS
  rw [List.length_append, List.length_singleton, Nat.add_sub_cancel, List.take_left]
structure Soft (L : List UInt8) (i : Nat) (st : List (List UInt8) × List UInt8) : Prop where
  row : ∀ r ∈ st.1, GoodRow r ∧ e61 r = true
  cl : Clean st.2
  len : st.2.length ≤ if i = L.length then 76 else 75
  up : ∀ r, unq (st.2 ++ r) = unq st.2 ++ unq r
  dec : (st.1.map dS).flatten ++ unq st.2 = L.take i
  fin : 0 < i → ∃ a, st.2 = a ++ pieceAt L (i - 1)
theorem clean_append {a b : List UInt8} (x : Clean a) (y : Clean b) : Clean (a ++ b) := fun c h => by
  rcases List.mem_append.mp h with h | h
  · exact x c h
  · exact y c h
theorem soft_told (L : List UInt8) : ∀ i, i ≤ L.length → Soft L i (softSt (pieces L) i)
  | 0, _ => by
    show Soft L 0 ([], [])
    refine ⟨fun r h => (nomatch h), fun c h => (nomatch h), Nat.zero_le _, fun r => ?_, ?_, fun h => absurd h (by omega)⟩
    · show unq ([] ++ r) = unq [] ++ unq r
      rw [unq_nil]; rfl
    · show [] ++ unq [] = L.take 0
      rw [unq_nil]; rfl
  | i + 1, h => by
    have hi : i < L.length := h
    obtain ⟨row, cl, len, up, dec, _⟩ := soft_told L i (by omega)
    rw [if_neg (by omega)] at len
    rw [softSt_succ]
    unfold softStep
    rw [pieces_getD hi, pieces_len]
    generalize softSt (pieces L) i = st at row cl len up dec ⊢
    have hp3 := pieceAt_le L i
    have pu := piece_unq hi
    have pu0 : unq (pieceAt L i) = [L[i]] := by
      have := pu []
      rw [List.append_nil, unq_nil] at this
      exact this
    have pc := piece_clean hi
    have ht : L.take (i + 1) = L.take i ++ [L[i]] := by rw [List.take_add_one, List.getElem?_eq_getElem hi]; rfl
    generalize hpp : pieceAt L i = p at hp3 pu pu0 pc ⊢
    by_cases hw : (if i + 1 = L.length then 76 else 75) < st.2.length + p.length
    · rw [if_pos hw]
      refine ⟨fun r hr => ?_, pc, ?_, fun r => by rw [pu, pu0]; rfl, ?_, fun _ => ⟨[], by simp [hpp]⟩⟩
      · rcases List.mem_append.mp hr with hr | hr
        · exact row r hr
        · rw [List.mem_singleton.mp hr]
          refine ⟨⟨by rw [List.length_append, List.length_singleton]; omega, by rw [drop_last]; decide, by rw [drop_last]; decide, clean_append cl fun c hc => ?_⟩, by rw [e61_snoc]; rfl⟩
          rw [List.mem_singleton.mp hc]; decide
      · show p.length ≤ _
        split <;> omega
      · show ((st.1 ++ [st.2 ++ [61]]).map dS).flatten ++ unq p = _
        rw [List.map_append, List.flatten_append, ht, ← dec, pu0, List.map_singleton, dS_snoc]; simp
    · rw [if_neg hw]
      refine ⟨row, clean_append cl pc, ?_, fun r => ?_, ?_, fun _ => ⟨st.2, by simp [hpp]⟩⟩
      · show (st.2 ++ p).length ≤ _
        rw [List.length_append]
        split
        · rename_i e
          rw [if_pos e] at hw; omega
        · rename_i e
          rw [if_neg e] at hw; omega
      · show unq (st.2 ++ p ++ r) = unq (st.2 ++ p) ++ unq r
        rw [List.append_assoc, up, pu, up, pu0]; simp
      · show (st.1.map dS).flatten ++ unq (st.2 ++ p) = _
        rw [up, pu0, ht, ← dec]; simp
/-- a line's rows -/
structure LineRows (L : List UInt8) (init : List (List UInt8)) (last : List UInt8) : Prop where
  is : softLines (pieces L) = init ++ [last]
  row : ∀ r ∈ init, GoodRow r ∧ e61 r = true
  good : GoodRow last
  no61 : e61 last = false
  dec : (init.map dS).flatten ++ unq last = L
theorem line_told (L : List UInt8) : ∃ init last, LineRows L init last := by
  obtain ⟨row, cl, len, up, dec, fin⟩ := soft_told L L.length (Nat.le_refl _)
  rw [if_pos rfl] at len
  refine ⟨(softSt (pieces L) L.length).1, (softSt (pieces L) L.length).2, by unfold softLines; rw [pieces_len], row, ?_, ?_, by rw [dec, List.take_length]⟩
  · by_cases h0 : L.length = 0
    · rw [h0]
      show GoodRow []
      exact ⟨Nat.zero_le _, by decide, by decide, fun c h => (nomatch h)⟩
    · obtain ⟨a, ha⟩ := fin (by omega)
      obtain ⟨b, c, hb, _, hc⟩ := piece_end (L := L) (i := L.length - 1) (by omega)
      obtain ⟨h32, h9⟩ := hc (by omega)
      refine ⟨len, ?_, ?_, cl⟩
      · rw [ha, hb, ← List.append_assoc, drop_last]; simpa using h32
      · rw [ha, hb, ← List.append_assoc, drop_last]; simpa using h9
  · by_cases h0 : L.length = 0
    · rw [h0]; rfl
    · obtain ⟨a, ha⟩ := fin (by omega)
      obtain ⟨b, c, hb, h61, _⟩ := piece_end (L := L) (i := L.length - 1) (by omega)
      rw [ha, hb, ← List.append_assoc, e61_snoc]
      simpa using h61

/-! all rows -/
noncomputable def soft (L : List UInt8) : List (List UInt8) := softLines (pieces L)
noncomputable def qrows (o : List UInt8) (t : Bool) : List (List UInt8) := (textLines o t).flatMap soft
theorem soft_ne (L : List UInt8) : soft L ≠ [] := by unfold soft softLines; simp
theorem flat_ne {Ls : List (List UInt8)} (h : Ls ≠ []) : Ls.flatMap soft ≠ [] := by
  cases Ls with
  | nil => exact absurd rfl h
  | cons L r =>
    rw [List.flatMap_cons]
    intro e
    exact soft_ne L (List.append_eq_nil_iff.mp e).1
theorem inter_append : ∀ {S T : List (List UInt8)}, S ≠ [] → T ≠ [] → inter (S ++ T) = inter S ++ 13 :: 10 :: inter T
  | [], _, h, _ => absurd rfl h
  | [a], [], _, h => absurd rfl h
  | [a], b :: r, _, _ => by rw [List.singleton_append, inter_two, inter_one]
  | a :: b :: S, T, _, h => by
    have ih := inter_append (S := b :: S) (T := T) (by simp) h
    rw [List.cons_append] at ih
    rw [List.cons_append, List.cons_append, inter_two, ih, inter_two]; simp
theorem jp_append (a b : List (List UInt8)) : joinedParts (a ++ b) = joinedParts a ++ joinedParts b := by unfold joinedParts; rw [List.flatMap_append]
theorem jp_inter : ∀ {init : List (List UInt8)} {last : List UInt8}, (∀ r ∈ init, e61 r = true) → e61 last = false → (joinedParts (init ++ [last])).flatten = inter (init ++ [last])
  | [], last, _, h => by
    have h' : (last.drop (last.length - 1) == [61]) = false := h
    rw [List.nil_append, jp_cons, if_neg (by rw [h']; decide), inter_one]
    simp [joinedParts]
  | r :: init, last, hi, h => by
    have ih := jp_inter (init := init) (last := last) (fun x hx => hi x (.tail _ hx)) h
    have hr : (r.drop (r.length - 1) == [61]) = true := hi r (.head _)
    rw [List.cons_append, jp_cons, if_pos hr, List.flatten_append, ih]
    rw [show r :: (init ++ [last]) = [r] ++ (init ++ [last]) from rfl, inter_append (S := [r]) (T := init ++ [last]) (by simp) (by simp), inter_one]
    simp
theorem jp_soft (L : List UInt8) : (joinedParts (soft L)).flatten = inter (soft L) := by
  obtain ⟨init, last, R⟩ := line_told L
  unfold soft
  rw [R.is]
  exact jp_inter (fun r hr => (R.row r hr).2) R.no61
theorem jp_all : ∀ {Ls : List (List UInt8)}, Ls ≠ [] → (joinedParts (Ls.flatMap lineRows).dropLast).flatten = inter (Ls.flatMap soft)
  | [], h => absurd rfl h
  | [L], _ => by
    rw [List.flatMap_cons, List.flatMap_nil, List.append_nil, List.flatMap_cons, List.flatMap_nil, List.append_nil]
    unfold lineRows
    rw [List.dropLast_concat]
    exact jp_soft L
  | L :: M :: r, _ => by
    have ih := jp_all (Ls := M :: r) (by simp)
    have hne : (M :: r).flatMap lineRows ≠ [] := by
      rw [List.flatMap_cons]
      unfold lineRows
      simp
    rw [List.flatMap_cons, List.dropLast_append_of_ne_nil hne, jp_append, List.flatten_append, ih, List.flatMap_cons (xs := M :: r), inter_append (soft_ne L) (flat_ne (by simp)), ← jp_soft L]
    unfold lineRows
    rw [jp_append, List.flatten_append]
    have : (joinedParts [[13, 10]]).flatten = [13, 10] := rfl
    rw [this]
    show _ ++ [13, 10] ++ _ = _
    simp [soft]
theorem textLines_ne (o : List UInt8) (t : Bool) : textLines o t ≠ [] := by
  unfold textLines
  cases t with
  | true => exact splitC_ne o
  | false => simp
theorem q_rows (o : List UInt8) (t : Bool) : quotedEnc o t = inter (qrows o t) := by
  unfold quotedEnc qrows
  rw [← List.dropLast_eq_take]
  exact jp_all (textLines_ne o t)
theorem qrows_good (o : List UInt8) (t : Bool) : ∀ r ∈ qrows o t, GoodRow r := by
  intro r h
  obtain ⟨L, _, hL⟩ := List.mem_flatMap.mp h
  obtain ⟨init, last, R⟩ := line_told L
  unfold soft at hL
  rw [R.is] at hL
  rcases List.mem_append.mp hL with h | h
  · exact (R.row r h).1
  · rw [List.mem_singleton.mp h]; exact R.good
theorem qrows_ne (o : List UInt8) (t : Bool) : qrows o t ≠ [] := flat_ne (textLines_ne o t)

/-! the way back -/
theorem rstrip_good {r : List UInt8} (h : GoodRow r) : rstripB r [32, 9] = r := by
  unfold rstripB
  rcases List.eq_nil_or_concat r with rfl | ⟨a, c, rfl⟩
  · rfl
  · rw [List.concat_eq_append] at h ⊢
    obtain ⟨_, h1, h2, _⟩ := h
    rw [drop_last] at h1 h2
    rw [List.reverse_append, List.reverse_singleton, List.singleton_append, List.dropWhile_cons, if_neg, List.reverse_cons, List.reverse_reverse]
    simp at h1 h2 ⊢
    exact ⟨h1, h2⟩
theorem qPart_soft {r e : List UInt8} (h : GoodRow r) (h1 : e61 r = true) : qPart (r, e) = dS r := by
  unfold qPart
  rw [rstrip_good h]
  have h1' : (r.drop (r.length - 1) == [61]) = true := h1
  rw [if_pos h1']; rfl
theorem qPart_hard {r e : List UInt8} (h : GoodRow r) (h1 : e61 r = false) : qPart (r, e) = unq r ++ e := by
  unfold qPart
  rw [rstrip_good h]
  have h1' : (r.drop (r.length - 1) == [61]) = false := h1
  rw [if_neg (by rw [h1']; decide)]
theorem lpRows_append : ∀ {S T : List (List UInt8)}, T ≠ [] → lpRows (S ++ T) = S.map (fun r => (r, [13, 10])) ++ lpRows T
  | [], T, _ => rfl
  | [a], [], h => absurd rfl h
  | [a], b :: T, _ => rfl
  | a :: b :: S, T, h => by
    have ih := lpRows_append (S := b :: S) (T := T) h
    rw [List.cons_append] at ih
    rw [List.cons_append, List.cons_append, lpRows, ih]; rfl
theorem part_soft {init : List (List UInt8)} (h : ∀ r ∈ init, GoodRow r ∧ e61 r = true) : ((init.map fun r => (r, ([13, 10] : List UInt8))).map qPart).flatten = (init.map dS).flatten := by
  rw [List.map_map]
  congr 1
  apply List.map_congr_left
  intro r hr
  exact qPart_soft (h r hr).1 (h r hr).2
theorem dec_all : ∀ {Ls : List (List UInt8)}, Ls ≠ [] → ((lpRows (Ls.flatMap soft)).map qPart).flatten = inter Ls
  | [], h => absurd rfl h
  | [L], _ => by
    obtain ⟨init, last, R⟩ := line_told L
    have e : soft L = init ++ [last] := R.is
    rw [List.flatMap_cons, List.flatMap_nil, List.append_nil, e, lpRows_append (by simp), List.map_append, List.flatten_append, part_soft R.row, inter_one]
    have : ((lpRows [last]).map qPart).flatten = unq last := by
      show ([qPart (last, [])]).flatten = _
      rw [qPart_hard R.good R.no61]; simp
    rw [this]; exact R.dec
  | L :: M :: r, _ => by
    have ih := dec_all (Ls := M :: r) (by simp)
    obtain ⟨init, last, R⟩ := line_told L
    have e : soft L = init ++ [last] := R.is
    rw [List.flatMap_cons, e, lpRows_append (flat_ne (by simp)), List.map_append, List.flatten_append, ih, List.map_append, List.map_append, List.flatten_append, part_soft R.row, inter_two]
    have : (([last].map fun r => (r, ([13, 10] : List UInt8))).map qPart).flatten = unq last ++ [13, 10] := by
      show ([qPart (last, [13, 10])]).flatten = _
      rw [qPart_hard R.good R.no61]; simp
    rw [this, ← List.append_assoc, R.dec]; simp
theorem inter_splitC : ∀ (n : Nat) (o : List UInt8), o.length ≤ n → inter (splitC o) = o
  | _, [], _ => by simp [splitC, inter_one]
  | _, [c], _ => by simp [splitC, inter_one]
  | 0, c :: d :: r, h => by simp at h
  | n + 1, c :: d :: r, h => by
    by_cases q : c = 13 ∧ d = 10
    · rw [splitC_two q]
      have ih := inter_splitC n r (by simp at h; omega)
      have hne := splitC_ne r
      rw [show [] :: splitC r = [[]] ++ splitC r from rfl, inter_append (by simp) hne, ih, inter_one, q.1, q.2]; rfl
    · rw [splitC_one q]
      have ih := inter_splitC n (d :: r) (by simpa using h)
      cases e : splitC (d :: r) with
      | nil => exact absurd e (splitC_ne _)
      | cons y tl =>
        rw [e] at ih
        cases tl with
        | nil =>
          rw [inter_one] at ih
          show inter [c :: y] = _
          rw [inter_one, ih]
        | cons z tl =>
          rw [inter_two] at ih
          show inter ((c :: y) :: z :: tl) = _
          rw [inter_two, List.cons_append, ih]
theorem text_back (o : List UInt8) (t : Bool) : inter (textLines o t) = o := by
  unfold textLines
  cases t with
  | true => exact inter_splitC _ o (Nat.le_refl _)
  | false => exact inter_one o
theorem qDec_back (o : List UInt8) (t : Bool) : qDec (quotedEnc o t) = o := by
  unfold qDec
  rw [q_rows, (rows_told (qrows_ne o t) (qrows_good o t)).2.2]
  unfold qrows
  rw [dec_all (textLines_ne o t), text_back]
theorem ends_all : ∀ {Ls : List (List UInt8)}, Ls ≠ [] → ((Ls.flatMap soft).dropLast.filter fun r => r.drop (r.length - 1) != [61]).length = Ls.length - 1
  | [], h => absurd rfl h
  | [L], _ => by
    obtain ⟨init, last, R⟩ := line_told L
    have e : soft L = init ++ [last] := R.is
    rw [List.flatMap_cons, List.flatMap_nil, List.append_nil, e, List.dropLast_concat]
    rw [List.filter_eq_nil_iff.mpr fun r hr => ?_]; rfl
    have h1 : (r.drop (r.length - 1) == [61]) = true := (R.row r hr).2
    rw [bne, h1]; decide
  | L :: M :: r, _ => by
    have ih := ends_all (Ls := M :: r) (by simp)
    obtain ⟨init, last, R⟩ := line_told L
    have e : soft L = init ++ [last] := R.is
    rw [List.flatMap_cons, List.dropLast_append_of_ne_nil (flat_ne (by simp)), List.filter_append, List.length_append, ih, e, List.filter_append]
    have h1 : init.filter (fun r => r.drop (r.length - 1) != [61]) = [] := List.filter_eq_nil_iff.mpr fun r hr => by
      have h1 : (r.drop (r.length - 1) == [61]) = true := (R.row r hr).2
      rw [bne, h1]; decide
    have h2 : [last].filter (fun r => r.drop (r.length - 1) != [61]) = [last] := by
      have h1 : (last.drop (last.length - 1) == [61]) = false := R.no61
      rw [List.filter_cons, if_pos (by rw [bne, h1]; rfl)]; rfl
    rw [h1, h2]
    simp only [List.length_cons, List.length_nil, List.nil_append]
    omega
theorem q_len (o : List UInt8) (t : Bool) (h : o.length ≤ 240) : (quotedEnc o t).length ≤ 3000 := by
  have hT := textLines_le o t
  have hR := rows_len (textLines o t)
  have h1 := lsum_take (allRows o t) ((allRows o t).length - 1)
  have h2 := List.length_take_le' ((allRows o t).length - 1) (allRows o t)
  have h3 := jp_sum ((allRows o t).take ((allRows o t).length - 1))
  unfold quotedEnc
  rw [List.length_flatten]
  unfold lsum at h1 hR hT
  unfold allRows at *
  omega
theorem facts (o : List UInt8) (t : Bool) (h : o.length ≤ 240) : Facts o t := by
  have hb := rows_told (rowsB_ne o) (rowsB_good o)
  have hq := rows_told (qrows_ne o t) (qrows_good o t)
  rw [← b64_rows] at hb
  rw [← q_rows] at hq
  refine ⟨hb.2.1, hq.2.1, decB_b64 o, qDec_back o t, b64_len o h, q_len o t h, ?_, ?_, ?_, ?_, ?_, ?_, ?_⟩
  · rw [hb.1]; exact rowsB_good o
  · rw [hq.1]; exact qrows_good o t
  · rw [hb.1]; exact rowsB_full o
  · rw [hb.1]; exact rowsB_last o
  · rw [hb.1, rowsB_flat, bare_told]
    unfold oneLine
    rw [List.length_append, List.length_replicate]; omega
  · rw [hb.1, rowsB_flat, bare_told]
    exact fun c hc => (sign_told c (partEnc_mem o c hc)).1
  · unfold hardEnds
    rw [hq.1]
    unfold qrows
    rw [ends_all (textLines_ne o t)]
    unfold textLines
    cases t <;> rfl
theorem rm_caller : Rm 6 callerA := ⟨rfl, by decide +kernel, by decide +kernel⟩
theorem law_run {C : Cx} (S : Su C) {s : Shared} {L fa sa : Addr} {cd : Value} {ws : List Value} {xs : List Int} {m : Str → Option Value} {A : Around} {body : List Stmt} {scope : Scope}
    (hbody : lawDef = some (body, scope)) (hA : Rm 5 A) (F : Fr C.g L s.heap m) (hm : m "script" = some (.ref sa)) (hL : C.g.IsList sa ws.toArray) (hI : IntsAre ws xs) (hxs : xs.length ≤ 63) (hLn : C.g.get? L = none) (hk : (lenv scope L fa cd).kindOf "script" = some .local) :
    wpAny C.M A (execs body (lenv scope L fa cd)) (fun fl s' => fl = .ret (.bool true) ∧ KeepH C.g s'.heap ∧ ∃ h' tk, s' = { s with heap := h', toks := tk }) noE s := by
  have there : ∃ o, s.heap.get? L = some o := let ⟨o, _, _, e, _⟩ := F.ns; ⟨o, e⟩
  have St : StR C (lenv scope L fa cd) [] [L] [("script", .val (.ref sa))] s := by
    refine ⟨F.keep, fun a ha => ?_, fun a ha => ?_, fun a _ h => (nomatch h), .head _, fun n c e => (nomatch e), fun _ n c e => (nomatch e), fun n n' c e => (nomatch e), ⟨m, F.ns⟩, fun _ => 0, fun x p e => ?_, fun x y l l' e => ?_⟩
    · rw [List.mem_singleton.mp ha]; exact there
    · rw [List.mem_singleton.mp ha]; exact hLn
    · rw [List.lookup_cons] at e
      split at e
      · rename_i hx
        cases e
        rw [beq_iff_eq.mp hx]
        exact ⟨.ref sa, .inl ⟨hk, m, F.ns, hm⟩, .val _⟩
      · cases e
    · rw [List.lookup_cons] at e
      split at e
      · cases e
      · cases e
  refine wpAny_mono (ExS.go (n := 5) (law_ok (n := 0) S facts xs hxs hL hI body scope hbody) hA St) (fun fl s' d => ?_) fun _ _ x => x
  obtain ⟨⟨out, rfl, v, rfl, r⟩, h', tk, rfl, k⟩ := d
  cases r
  refine ⟨rfl, fun b o e => k b o (fun hb => ?_) (F.keep b o e), _, _, rfl⟩
  rw [List.mem_singleton.mp hb, hLn] at e
  cases e
end Mine
set_option maxRecDepth 100000 in
set_option maxHeartbeats 8000000 in
theorem PySem.Challenge.cw_or0049_01_holds : PySem.Challenge.rw_or0049_01.Holds := by
  w_on
  o_law
  refine holds_open (q := Mine.view) (loose := Mine.loose) (XP := XL Mine.view []) (YP := Hook.says Mine.hook) Mine.left (Hook.of Mine.hook) (Hook.keeps Mine.hook) (fun s e => xl_of s (Bool.and_eq_true_iff.mp e).1) XL.keeps (by rfl) (by rfl) (by rfl) (fun s e => recFacts_of (Bool.and_eq_true_iff.mp e).2) (by rfl) (by first | assumption | decide +kernel) (by decide +kernel) ⟨rfl, rfl, rfl, rfl, rfl, by decide +kernel⟩ ?hw ?hc
  case hw => w_witness2
  case hc =>
    w_strict k_go0
    rename_i w s₀ s₁ mg mb G Y fa o pm doc kV ho hg KX X V GL T B TE TW w9 w8 M w7 w6 hcd xs hs hlay0 hL1 hr1 hl2 w4 w3 sa ws w0 hL ra w1 r0 hI hr hc1 hc0 K0 hD h₁ F N0
    refine wpAny_mono (Mine.law_run (C := ⟨PySem.Challenge.rw_or0049_01.row.prog, w, s₁.heap, mg, mb⟩) ⟨⟨GL.g, GL.b, GL.nolimit⟩, KX, GL.builtins⟩ (xs := xs) (ws := ws) (sa := sa) ?h1 ?h2 F ?h3 hL hI ?h4 ?h5 ?h6) ?g2 ?g3
    case h1 => exact rfl
    case h2 => exact Mine.Rm.deeper Mine.rm_caller _
    case h3 => exact rfl
    case h4 => omega
    case h5 => exact Heap.get?_none_of_le (Nat.le_refl _)
    case h6 => exact rfl
    case g3 => exact fun _ _ h => h.elim
    case g2 =>
      rintro fl s' ⟨rfl, hk, h', tk, rfl⟩
      refine ⟨.inl ⟨.bool true, .bool true, [], rfl, raisesW_false ?_, .bool true, ?_, unshared_nil⟩, hk, rfl, hg⟩
      · wrow_none_raised
      · wrow_post
