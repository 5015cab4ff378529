import PyProof.Rows.All
import Wide.All
import OpenK.AllK
import Wide.FinOn
import Lean
import PySem.Challenge.RW_nt0637_01
open PySem PySem.W PyProof.Rows PySem.Calls
set_option Elab.async false
set_option linter.unusedVariables false
set_option maxRecDepth 100000
set_option maxHeartbeats 8000000
namespace Mine
set_option bootstrap.genMatcherCode false
set_option genSizeOf false
set_option genInjectivity false
abbrev PR : Program := PySem.Challenge.rw_nt0637_01.row.prog
def stN (i : Nat) : Stmt := (PR.main.body.drop i).headD (.Pass default)
def metN (i j : Nat) : Stmt := match stN i with | .ClassDef _ _ _ b _ _ _ _ _ _ _ => (b.drop j).headD (.Pass default) | s => s
def stName : Stmt → Str | .FunctionDef n _ _ _ _ _ _ _ _ _ => n | .ClassDef n _ _ _ _ _ _ _ _ _ _ => n | .Assign (.Name n _ :: _) _ _ => n | _ => default
noncomputable abbrev sv (s : Str) (t : Nat) : Value := .str s t
noncomputable def fnO (s : Stmt) (q : Str) (f : Nat) (m d : Value) : Obj := match s with | .FunctionDef n a b _ _ _ c _ _ _ => { cls := .type "function", data := .func { name := n, qualname := q, params := a, body := .stmts b, scope := c, globals := 3, closure := [], defaults := d, kwdefaults := .none, pyModule := m, code := .ref f } } | _ => default
noncomputable def cdO (n q : Str) (t0 tk line argc : Nat) (a b c d e : Value) : Obj := { cls := .type "code", data := .fields #[.str n t0, .str q (t0 + 1), .str (Str.ofString "/claim/cut.py") (t0 + 2), .int line 0, .int argc 0, .int 0 0, .int 0 0, .int 3 0, a, .bool true, .int 181 0, b, .none, c, d, e, .int tk 0, .int line 0, .str (Str.ofString "/claim/cut.py") (tk + 1)] }
noncomputable abbrev mV : Value := .str (Str.ofString "lua.values") 187
noncomputable abbrev mL : Value := .str (Str.ofString "law_nt0637_01") 491
noncomputable def en (P : Params) (n : Str) (t : Nat) (v : Value) : DictEntry := ⟨PyData.keyHash P n, .str n t, v⟩
noncomputable def bootEs (P : Params) : List DictEntry := match (boot_o_3 P).data with | .dict es _ => es.toList | _ => []
noncomputable def nsO (P : Params) : Obj := { cls := .type "dict", data := (.dict (en P (Str.ofString "__name__") 165 mL :: ((bootEs P).drop 1 ++ [en P (stName (stN 1)) 191 (.int (-1) 190),
  en P (stName (stN 2)) 193 (.int 0 192),
  en P (stName (stN 3)) 195 (.int 1 194),
  en P (stName (stN 4)) 197 (.int 2 196),
  en P (stName (stN 5)) 199 (.int 3 198),
  en P (stName (stN 6)) 201 (.int 4 200),
  en P (stName (stN 7)) 211 (.ref 15),
  en P (stName (stN 8)) 213 (.bytes #[32, 9, 10, 11, 12, 13] 212),
  en P (stName (stN 9)) 215 (.int 4294967295 214),
  en P (stName (stN 10)) 286 (.ref 47),
  en P (stName (stN 11)) 319 (.ref 68),
  en P (stName (stN 12)) 348 (.ref 89),
  en P (stName (stN 13)) 355 (.ref 100),
  en P (stName (stN 14)) 362 (.ref 107),
  en P (stName (stN 15)) 369 (.ref 114),
  en P (stName (stN 16)) 376 (.ref 121),
  en P (stName (stN 17)) 383 (.ref 128),
  en P (stName (stN 18)) 392 (.ref 135),
  en P (stName (stN 19)) 401 (.ref 142),
  en P (stName (stN 20)) 408 (.ref 149),
  en P (stName (stN 21)) 415 (.ref 156),
  en P (stName (stN 22)) 426 (.ref 163),
  en P (stName (stN 23)) 434 (.ref 170),
  en P (stName (stN 24)) 442 (.ref 177),
  en P (stName (stN 25)) 456 (.ref 184),
  en P (stName (stN 26)) 464 (.ref 191),
  en P (stName (stN 27)) 473 (.ref 198),
  en P (stName (stN 28)) 480 (.ref 205),
  en P (stName (stN 29)) 490 (.ref 212),
  en P (stName (stN 31)) 498 (.ref 219),
  en P (stName (stN 32)) 504 (.ref 226),
  en P (stName (stN 33)) 512 (.ref 233),
  en P (stName (stN 34)) 522 (.ref 240),
  en P (stName (stN 35)) 530 (.ref 247),
  en P (stName (stN 36)) 542 (.ref 254),
  en P (stName (stN 37)) 551 (.ref 261),
  en P (stName (stN 38)) 557 (.ref 266),
  en P (stName (stN 39)) 570 (.ref 273),
  en P (stName (stN 40)) 576 (.ref 278),
  en P (stName (stN 41)) 582 (.ref 283)])).toArray 49) }
noncomputable def cls47 : Obj := { cls := .type "type", data := .cls { name := stName (stN 10), bases := [.type "object"], mro := [.ref 47, .type "object"], ns := 46, qualname := stName (stN 10) }, slots := #[none, none, some (.str (stName (stN 10)) 216), some (.str (stName (stN 10)) 224), some (.builtin "object.__new__"), some (.bool true)] }
noncomputable def cns47 (P : Params) : Obj := { cls := .type "dict", data := .dict #[en P (Str.ofString "__module__") 223 mV, en P (Str.ofString "__firstlineno__") 227 (.int 11 226), en P (Str.ofString "__init__") 254 (.ref 30), en P (Str.ofString "greatest") 261 (.ref 37), en P (Str.ofString "least") 268 (.ref 44), en P (Str.ofString "__static_attributes__") 279 (.ref 45), en P (Str.ofString "__dict__") 281 (.ref 48), en P (Str.ofString "__weakref__") 283 (.ref 49), en P (Str.ofString "__doc__") 284 .none] 4 }
noncomputable def cls68 : Obj := { cls := .type "type", data := .cls { name := stName (stN 11), bases := [.type "object"], mro := [.ref 68, .type "object"], ns := 67, qualname := stName (stN 11) }, slots := #[none, none, some (.str (stName (stN 11)) 287), some (.str (stName (stN 11)) 295), some (.builtin "object.__new__"), some (.bool true)] }
noncomputable def cns68 (P : Params) : Obj := { cls := .type "dict", data := .dict #[en P (Str.ofString "__module__") 294 mV, en P (Str.ofString "__firstlineno__") 298 (.int 30 297), en P (Str.ofString "kind") 299 (.int (-1) 190), en P (Str.ofString "__init__") 308 (.ref 65), en P (Str.ofString "__static_attributes__") 312 (.ref 66), en P (Str.ofString "__dict__") 314 (.ref 69), en P (Str.ofString "__weakref__") 316 (.ref 70), en P (Str.ofString "__doc__") 317 .none] 4 }
noncomputable def cls89 : Obj := { cls := .type "type", data := .cls { name := stName (stN 12), bases := [.type "object"], mro := [.ref 89, .type "object"], ns := 88, qualname := stName (stN 12) }, slots := #[none, none, some (.str (stName (stN 12)) 320), some (.str (stName (stN 12)) 328), some (.builtin "object.__new__"), some (.bool true)] }
noncomputable def cns89 (P : Params) : Obj := { cls := .type "dict", data := .dict #[en P (Str.ofString "__module__") 327 mV, en P (Str.ofString "__firstlineno__") 331 (.int 37 330), en P (Str.ofString "__init__") 339 (.ref 86), en P (Str.ofString "__static_attributes__") 341 (.ref 87), en P (Str.ofString "__dict__") 343 (.ref 90), en P (Str.ofString "__weakref__") 345 (.ref 91), en P (Str.ofString "__doc__") 346 .none] 4 }
noncomputable def namesO : Obj := { cls := .type "list", data := .seq #[.bytes #[110, 105, 108] 202, .bytes #[98, 111, 111, 108, 101, 97, 110] 203, .bytes #[117, 115, 101, 114, 100, 97, 116, 97] 204, .bytes #[110, 117, 109, 98, 101, 114] 205, .bytes #[115, 116, 114, 105, 110, 103] 206, .bytes #[116, 97, 98, 108, 101] 207, .bytes #[102, 117, 110, 99, 116, 105, 111, 110] 208, .bytes #[117, 115, 101, 114, 100, 97, 116, 97] 209, .bytes #[116, 104, 114, 101, 97, 100] 210] }
noncomputable def dfltO : Obj := { cls := .type "tuple", data := .seq #[.int 64 228, .int 250 229, .int 60 230, .int 200 231, .int 40 232, .int 200 233, .int 2000 234, .int 50 235, .int 1000000000 236, .int 1000000 237] }
noncomputable def KF : Params → Frag := fun P => (nat_lit 3, nsO P) ::
  (nat_lit 15, namesO) ::
  (nat_lit 23, dfltO) ::
  (nat_lit 29, cdO (Str.ofString "__init__") (Str.ofString "Limits.__init__") 238 252 13 11 (.ref 24) (.ref 25) (.ref 26) (.ref 27) (.ref 28)) ::
  (nat_lit 30, fnO (metN 10 0) (Str.ofString "Limits.__init__") 29 mV (.ref 23)) ::
  (nat_lit 36, cdO (Str.ofString "greatest") (Str.ofString "Limits.greatest") 255 259 25 1 (.ref 31) (.ref 32) (.ref 33) (.ref 34) (.ref 35)) ::
  (nat_lit 37, fnO (metN 10 1) (Str.ofString "Limits.greatest") 36 mV .none) ::
  (nat_lit 43, cdO (Str.ofString "least") (Str.ofString "Limits.least") 262 266 28 1 (.ref 38) (.ref 39) (.ref 40) (.ref 41) (.ref 42)) ::
  (nat_lit 44, fnO (metN 10 2) (Str.ofString "Limits.least") 43 mV .none) ::
  (nat_lit 46, cns47 P) ::
  (nat_lit 47, cls47) ::
  (nat_lit 64, cdO (Str.ofString "__init__") (Str.ofString "HeapObject.__init__") 300 306 33 3 (.ref 59) (.ref 60) (.ref 61) (.ref 62) (.ref 63)) ::
  (nat_lit 65, fnO (metN 11 1) (Str.ofString "HeapObject.__init__") 64 mV .none) ::
  (nat_lit 67, cns68 P) ::
  (nat_lit 68, cls68) ::
  (nat_lit 85, cdO (Str.ofString "__init__") (Str.ofString "LightValue.__init__") 332 337 39 2 (.ref 80) (.ref 81) (.ref 82) (.ref 83) (.ref 84)) ::
  (nat_lit 86, fnO (metN 12 0) (Str.ofString "LightValue.__init__") 85 mV .none) ::
  (nat_lit 88, cns89 P) ::
  (nat_lit 89, cls89) ::
  (nat_lit 99, cdO (stName (stN 13)) (stName (stN 13)) 349 353 41 1 (.ref 94) (.ref 95) (.ref 96) (.ref 97) (.ref 98)) ::
  (nat_lit 100, fnO (stN 13) (stName (stN 13)) 99 mV .none) ::
  (nat_lit 106, cdO (stName (stN 14)) (stName (stN 14)) 356 360 43 1 (.ref 101) (.ref 102) (.ref 103) (.ref 104) (.ref 105)) ::
  (nat_lit 107, fnO (stN 14) (stName (stN 14)) 106 mV .none) ::
  (nat_lit 113, cdO (stName (stN 15)) (stName (stN 15)) 363 367 57 1 (.ref 108) (.ref 109) (.ref 110) (.ref 111) (.ref 112)) ::
  (nat_lit 114, fnO (stN 15) (stName (stN 15)) 113 mV .none) ::
  (nat_lit 120, cdO (stName (stN 16)) (stName (stN 16)) 370 374 61 1 (.ref 115) (.ref 116) (.ref 117) (.ref 118) (.ref 119)) ::
  (nat_lit 121, fnO (stN 16) (stName (stN 16)) 120 mV .none) ::
  (nat_lit 127, cdO (stName (stN 17)) (stName (stN 17)) 377 381 65 1 (.ref 122) (.ref 123) (.ref 124) (.ref 125) (.ref 126)) ::
  (nat_lit 128, fnO (stN 17) (stName (stN 17)) 127 mV .none) ::
  (nat_lit 134, cdO (stName (stN 18)) (stName (stN 18)) 384 390 67 2 (.ref 129) (.ref 130) (.ref 131) (.ref 132) (.ref 133)) ::
  (nat_lit 135, fnO (stN 18) (stName (stN 18)) 134 mV .none) ::
  (nat_lit 141, cdO (stName (stN 19)) (stName (stN 19)) 393 399 76 2 (.ref 136) (.ref 137) (.ref 138) (.ref 139) (.ref 140)) ::
  (nat_lit 142, fnO (stN 19) (stName (stN 19)) 141 mV .none) ::
  (nat_lit 148, cdO (stName (stN 20)) (stName (stN 20)) 402 406 81 1 (.ref 143) (.ref 144) (.ref 145) (.ref 146) (.ref 147)) ::
  (nat_lit 149, fnO (stN 20) (stName (stN 20)) 148 mV .none) ::
  (nat_lit 155, cdO (stName (stN 21)) (stName (stN 21)) 409 413 83 1 (.ref 150) (.ref 151) (.ref 152) (.ref 153) (.ref 154)) ::
  (nat_lit 156, fnO (stN 21) (stName (stN 21)) 155 mV .none) ::
  (nat_lit 162, cdO (stName (stN 22)) (stName (stN 22)) 416 424 91 3 (.ref 157) (.ref 158) (.ref 159) (.ref 160) (.ref 161)) ::
  (nat_lit 163, fnO (stN 22) (stName (stN 22)) 162 mV .none) ::
  (nat_lit 169, cdO (stName (stN 23)) (stName (stN 23)) 427 432 100 2 (.ref 164) (.ref 165) (.ref 166) (.ref 167) (.ref 168)) ::
  (nat_lit 170, fnO (stN 23) (stName (stN 23)) 169 mV .none) ::
  (nat_lit 176, cdO (stName (stN 24)) (stName (stN 24)) 435 440 104 2 (.ref 171) (.ref 172) (.ref 173) (.ref 174) (.ref 175)) ::
  (nat_lit 177, fnO (stN 24) (stName (stN 24)) 176 mV .none) ::
  (nat_lit 183, cdO (stName (stN 25)) (stName (stN 25)) 443 454 106 3 (.ref 178) (.ref 179) (.ref 180) (.ref 181) (.ref 182)) ::
  (nat_lit 184, fnO (stN 25) (stName (stN 25)) 183 mV .none) ::
  (nat_lit 190, cdO (stName (stN 26)) (stName (stN 26)) 457 462 118 2 (.ref 185) (.ref 186) (.ref 187) (.ref 188) (.ref 189)) ::
  (nat_lit 191, fnO (stN 26) (stName (stN 26)) 190 mV .none) ::
  (nat_lit 197, cdO (stName (stN 27)) (stName (stN 27)) 465 471 124 1 (.ref 192) (.ref 193) (.ref 194) (.ref 195) (.ref 196)) ::
  (nat_lit 198, fnO (stN 27) (stName (stN 27)) 197 mV .none) ::
  (nat_lit 204, cdO (stName (stN 28)) (stName (stN 28)) 474 478 134 1 (.ref 199) (.ref 200) (.ref 201) (.ref 202) (.ref 203)) ::
  (nat_lit 205, fnO (stN 28) (stName (stN 28)) 204 mV .none) ::
  (nat_lit 211, cdO (stName (stN 29)) (stName (stN 29)) 481 488 140 1 (.ref 206) (.ref 207) (.ref 208) (.ref 209) (.ref 210)) ::
  (nat_lit 212, fnO (stN 29) (stName (stN 29)) 211 mV .none) ::
  (nat_lit 218, cdO (stName (stN 31)) (stName (stN 31)) 493 496 148 0 (.ref 213) (.ref 214) (.ref 215) (.ref 216) (.ref 217)) ::
  (nat_lit 219, fnO (stN 31) (stName (stN 31)) 218 mL .none) ::
  (nat_lit 225, cdO (stName (stN 32)) (stName (stN 32)) 499 502 150 0 (.ref 220) (.ref 221) (.ref 222) (.ref 223) (.ref 224)) ::
  (nat_lit 226, fnO (stN 32) (stName (stN 32)) 225 mL .none) ::
  (nat_lit 232, cdO (stName (stN 33)) (stName (stN 33)) 505 510 152 2 (.ref 227) (.ref 228) (.ref 229) (.ref 230) (.ref 231)) ::
  (nat_lit 233, fnO (stN 33) (stName (stN 33)) 232 mL .none) ::
  (nat_lit 239, cdO (stName (stN 34)) (stName (stN 34)) 513 520 156 2 (.ref 234) (.ref 235) (.ref 236) (.ref 237) (.ref 238)) ::
  (nat_lit 240, fnO (stN 34) (stName (stN 34)) 239 mL .none) ::
  (nat_lit 246, cdO (stName (stN 35)) (stName (stN 35)) 523 528 167 2 (.ref 241) (.ref 242) (.ref 243) (.ref 244) (.ref 245)) ::
  (nat_lit 247, fnO (stN 35) (stName (stN 35)) 246 mL .none) ::
  (nat_lit 253, cdO (stName (stN 36)) (stName (stN 36)) 531 540 175 3 (.ref 248) (.ref 249) (.ref 250) (.ref 251) (.ref 252)) ::
  (nat_lit 254, fnO (stN 36) (stName (stN 36)) 253 mL .none) ::
  (nat_lit 260, cdO (stName (stN 37)) (stName (stN 37)) 543 549 184 1 (.ref 255) (.ref 256) (.ref 257) (.ref 258) (.ref 259)) ::
  (nat_lit 261, fnO (stN 37) (stName (stN 37)) 260 mL .none) ::
  (nat_lit 265, cdO (stName (stN 38)) (stName (stN 38)) 552 555 190 1 (.ref 262) (.ref 263) .none .none (.ref 264)) ::
  (nat_lit 266, fnO (stN 38) (stName (stN 38)) 265 mL .none) ::
  (nat_lit 272, cdO (stName (stN 39)) (stName (stN 39)) 558 568 196 4 (.ref 267) (.ref 268) (.ref 269) (.ref 270) (.ref 271)) ::
  (nat_lit 273, fnO (stN 39) (stName (stN 39)) 272 mL .none) ::
  (nat_lit 277, cdO (stName (stN 40)) (stName (stN 40)) 571 574 208 2 (.ref 274) (.ref 275) .none .none (.ref 276)) ::
  (nat_lit 278, fnO (stN 40) (stName (stN 40)) 277 mL .none) ::
  (nat_lit 282, cdO (stName (stN 41)) (stName (stN 41)) 577 580 213 1 (.ref 279) (.ref 280) .none .none (.ref 281)) ::
  (nat_lit 283, fnO (stN 41) (stName (stN 41)) 282 mL .none) :: []
noncomputable def KA : List Addr := [3, 15, 23, 29, 30, 36, 37, 43, 44, 46, 47, 64, 65, 67, 68, 85, 86, 88, 89, 99, 100, 106, 107, 113, 114, 120, 121, 127, 128, 134, 135, 141, 142, 148, 149, 155, 156, 162, 163, 169, 170, 176, 177, 183, 184, 190, 191, 197, 198, 204, 205, 211, 212, 218, 219, 225, 226, 232, 233, 239, 240, 246, 247, 253, 254, 260, 261, 265, 266, 272, 273, 277, 278, 282, 283]
theorem KA_eq : ∀ P, KA = (KF P).map (·.1) := fun P => by kernel_rfl
noncomputable def QV : Program := { PR with main := { PR.main with body := List.append ((PR.main.body.drop 1).take 29) (PR.main.body.drop 31) } }
set_option tactic.hygienic false
theorem filled (P : Params) : PySem.Challenge.rw_nt0637_01.row.prog = PySem.Challenge.rw_nt0637_01.row.prog ∧ Mine.KF P = Mine.KF P := by
  k_fill; exact ⟨rfl, rfl⟩
noncomputable abbrev Led := List (Addr × Obj)
-- a datum of the law's
set_option genInjectivity true in
inductive D where
  | nil
  | bool (b : Bool)
  | num (n : Int)
  | text (x : List UInt8)
  | light (n : Int)
  | heap (n : Int)
deriving DecidableEq
theorem ff {p : Prop} (h : true = false) : p := Bool.noConfusion h
theorem ft {p : Prop} (h : false = true) : p := Bool.noConfusion h
inductive LightAt (news : Led) (v : Value) (n : Int) : Prop where
  | mk (a dx : Addr) (hs : Int) (k : Nat) (t t1 : Tok) (e : v = .ref a) (h1 : (a, ({ cls := .ref 89, dict := some dx } : Obj)) ∈ news) (h2 : (dx, dictOf [⟨hs, .str (Str.ofString "number") t1, .int n t⟩] k) ∈ news)
inductive HeapAt (news : Led) (v : Value) (n : Int) : Prop where
  | mk (a dx : Addr) (n2 n3 hs hs2 hs3 : Int) (k : Nat) (t t1 t2 t3 t4 t5 : Tok) (e : v = .ref a) (h1 : (a, ({ cls := .ref 68, dict := some dx } : Obj)) ∈ news)
      (h2 : (dx, dictOf [⟨hs, .str (Str.ofString "number") t1, .int n t⟩, ⟨hs2, .str (Str.ofString "mark") t2, .int n2 t3⟩, ⟨hs3, .str (Str.ofString "size") t4, .int n3 t5⟩] k) ∈ news)
noncomputable def VRel (news : Led) (v : Value) : D → Prop
  | .nil => v = .none
  | .bool b => v = .bool b
  | .num n => ∃ t, v = .int n t
  | .text x => ∃ t, v = .bytes x.toArray t
  | .light n => LightAt news v n
  | .heap n => HeapAt news v n
theorem VRel.nil {l : Led} : VRel l .none .nil := rfl
theorem VRel.bool {l : Led} (b : Bool) : VRel l (.bool b) (.bool b) := rfl
theorem VRel.num {l : Led} (n : Int) (t : Tok) : VRel l (.int n t) (.num n) := ⟨t, rfl⟩
theorem VRel.text {l : Led} (x : List UInt8) (t : Tok) : VRel l (.bytes x.toArray t) (.text x) := ⟨t, rfl⟩
theorem VRel.mono {l l' : Led} {v : Value} {d : D} (h : VRel l v d) (hs : ∀ p ∈ l, p ∈ l') : VRel l' v d := by
  cases d with
  | nil => exact h
  | bool b => exact h
  | num n => exact h
  | text x => exact h
  | light n =>
    obtain ⟨a, dx, x, k, t, t1, e, h1, h2⟩ := h
    exact ⟨a, dx, x, k, t, t1, e, hs _ h1, hs _ h2⟩
  | heap n =>
    obtain ⟨a, dx, n2, n3, x, x2, x3, k, t, t1, t2, t3, t4, t5, e, h1, h2⟩ := h
    exact ⟨a, dx, n2, n3, x, x2, x3, k, t, t1, t2, t3, t4, t5, e, hs _ h1, hs _ h2⟩
-- what is held in a pair of the drawn
noncomputable def HRel (v : Value) : D → Prop
  | .nil => ∃ t, v = .int 0 t
  | .bool b => ∃ t, v = .int (if b then 1 else 0) t
  | .num n => ∃ t, v = .int n t
  | .text x => ∃ t, v = .bytes x.toArray t
  | .light n => ∃ t, v = .int n t
  | .heap n => ∃ t, v = .int n t
-- the limits: an object with ten told parts
inductive LimRel (news : Led) : Value → Int → Prop where
  | mk {a dx : Addr} {b : Int} {es : List DictEntry} {hs : Int} {k : Nat} {t1 u1 : Tok} : (a, ({ cls := .ref 47, dict := some dx } : Obj)) ∈ news → (dx, dictOf (⟨hs, .str (Str.ofString "width") t1, .int b u1⟩ :: es) k) ∈ news →
      getL (Str.ofString "greatest") (⟨hs, .str (Str.ofString "width") t1, .int b u1⟩ :: es) = some none → getL (Str.ofString "least") (⟨hs, .str (Str.ofString "width") t1, .int b u1⟩ :: es) = some none → LimRel news (.ref a) b
theorem LimRel.mono {l l' : Led} {v : Value} {b : Int} (h : LimRel l v b) (hs : ∀ p ∈ l, p ∈ l') : LimRel l' v b := by
  cases h with
  | mk h1 h2 h3 h4 => exact .mk (hs _ h1) (hs _ h2) h3 h4
-- the def's own part of a frame
structure Fs where
  cn : Str
  cs : Scope
  a : Addr
  ccd : Value
  cl : List (Str × Addr)
-- a frame's facts
structure Act where
  w : World
  mean : ExcName → Option Value
  mg : Str → Option Value
  mb : Str → Option Value
  A : Around
  outer : List Env
  A₀ : Around
  base : Heap
  h₀ : Heap
  L : Addr
  news : Led
noncomputable abbrev KK (c : Act) : Frag := Mine.KF c.w.params
noncomputable abbrev Fs.env (S : Fs) (c : Act) : Env := envX S.cn S.cs c.L S.a S.ccd S.cl
-- the frame stands, with room for lev calls below it
structure Ok (S : Fs) (c : Act) (lev : Nat) : Prop where
  B : Below c.A₀ c.base c.outer c.h₀
  X : (KK c).In c.h₀
  T : Top Mine.QV (looseW Mine.QV [Str.ofString "TYPE_NAMES", Str.ofString "HeapObject"]) c.mean c.mg c.mb c.h₀
  fr : c.A.frames = some (S.env c :: c.outer)
  hh : c.A.handled = none
  hk : S.cs.kind = .function
  hd : c.A.depth + lev < recursionLimit
  hu : c.A.units + 20 * lev < cLine
theorem Ok.mono {S : Fs} {c : Act} {n k : Nat} (h : Ok S c n) (hk : k ≤ n) : Ok S c k := ⟨h.B, h.X, h.T, h.fr, h.hh, h.hk, by have := h.hd; (first | lia | omega), by have := h.hu; (first | lia | omega)⟩
-- values, as far as the law asks
inductive Rv where
  | ex (v : Value)
  | int (i : Int)
  | byt (x : List UInt8)
  | str (x : Str)
  | dat (d : D)
  | held (d : D)
  | lim (b : Int)
  | scr (ns : List Int)
  | num (o : Option Int)
  | txt (o : Option (List UInt8))
noncomputable def Rv.ok (c : Act) : Rv → Value → Prop
  | .ex v, u => u = v
  | .int i, u => ∃ t, u = .int i t
  | .byt x, u => ∃ t, u = .bytes x.toArray t
  | .str x, u => ∃ t, u = .str x t
  | .dat d, u => VRel c.news u d
  | .held d, u => HRel u d
  | .lim b, u => LimRel c.news u b
  | .scr ns, u => ∃ l vs, u = .ref l ∧ c.base.IsList l vs.toArray ∧ IntsAre vs ns ∧ ns.length ≤ 63
  | .num none, u => u = .none
  | .num (some i), u => ∃ t, u = .int i t
  | .txt none, u => u = .none
  | .txt (some x), u => ∃ t, u = .bytes x.toArray t
noncomputable abbrev Gam := List (Str × Rv)
noncomputable def GOk (c : Act) (Γ : Gam) (m : Str → Option Value) : Prop := ∀ x r, Γ.lookup x = some r → ∃ v, m x = some v ∧ r.ok c v
theorem GOk.set {c : Act} {Γ : Gam} {m : Str → Option Value} {x : Str} {r : Rv} {v : Value} (G : GOk c Γ m) (h : r.ok c v) : GOk c ((x, r) :: Γ) (fun y => if y = x then some v else m y) := by
  intro y q e
  by_cases hy : y = x
  · subst hy
    rw [List.lookup_cons_self] at e
    cases e
    exact ⟨v, if_pos rfl, h⟩
  · have : (y == x) = false := by simpa using hy
    rw [List.lookup_cons, this] at e
    obtain ⟨u, h1, h2⟩ := G y q e
    exact ⟨u, (if_neg hy).trans h1, h2⟩
noncomputable def Good (c : Act) (m : Str → Option Value) (s : Shared) : Prop := Fr c.h₀ c.L s.heap m ∧ News c.h₀ c.L s.heap c.news
-- e comes to a value like r; the frame and the ledger stay
noncomputable def Ev (V : Env) (c : Act) (Γ : Gam) (e : PySem.Expr) (r : Rv) : Prop :=
  ∀ m (s : Shared) (Q E : Value → Shared → Prop), GOk c Γ m → Fr c.h₀ c.L s.heap m → News c.h₀ c.L s.heap c.news →
    (∀ v h' tk', Fr c.h₀ c.L h' m → News c.h₀ c.L h' c.news → r.ok c v → Q v { s with heap := h', toks := tk' }) → wpAny (model PR c.w) c.A (eval e V) Q E s
-- the test e comes out b
noncomputable def Tv (V : Env) (c : Act) (Γ : Gam) (e : PySem.Expr) (b : Bool) : Prop :=
  ∀ m (s : Shared) (whole : Sem Value) (Q : Bool → Shared → Prop) (E : Value → Shared → Prop), whole = eval e V → GOk c Γ m → Fr c.h₀ c.L s.heap m → News c.h₀ c.L s.heap c.news →
    (∀ h' tk', Fr c.h₀ c.L h' m → News c.h₀ c.L h' c.news → Q b { s with heap := h', toks := tk' }) → wpAny (model PR c.w) c.A (PySem.isTrue e V whole) Q E s
-- what statements come to: R says of the flow, the names and the heap
noncomputable def Ex (S : Fs) (c : Act) (Γ : Gam) (ss : List Stmt) (R : Flow → (Str → Option Value) → Heap → Prop) : Prop :=
  ∀ m (s : Shared) (Q : Flow → Shared → Prop) (E : Value → Shared → Prop), PassesOwn (model PR c.w) c.A (S.env c) E → GOk c Γ m → Fr c.h₀ c.L s.heap m → News c.h₀ c.L s.heap c.news →
    (∀ f h' tk' m', Fr c.h₀ c.L h' m' → R f m' h' → Q f { s with heap := h', toks := tk' }) → wpAny (model PR c.w) c.A (execs ss (S.env c)) Q E s
-- the end of a def that hands back a value like r
noncomputable def Ret (c : Act) (r : Rv) (f : Flow) (_ : Str → Option Value) (h : Heap) : Prop := ∃ v, f = .ret v ∧ News c.h₀ c.L h c.news ∧ r.ok c v
-- the end of plain steps
noncomputable def Nxt (c : Act) (Γ : Gam) (f : Flow) (m : Str → Option Value) (h : Heap) : Prop := f = .next ∧ News c.h₀ c.L h c.news ∧ GOk c Γ m
noncomputable def okN (S : Fs) (x : Str) (k : NameKind) : Bool := (S.cs.names.lookup x == some k) && !(x == Str.ofString "__debug__")
theorem okN_1 {S : Fs} {x : Str} {k : NameKind} (h : okN S x k = true) : S.cs.names.lookup x = some k := by
  unfold okN at h
  exact beq_iff_eq.mp (Bool.and_eq_true_iff.mp h).1
theorem okN_2 {S : Fs} {x : Str} {k : NameKind} (h : okN S x k = true) : (x == Str.ofString "__debug__") = false := by
  unfold okN at h
  simpa using (Bool.and_eq_true_iff.mp h).2
noncomputable def locR (S : Fs) (Γ : Gam) (x : Str) : Option Rv := cond (okN S x .local) (Γ.lookup x) none
section
variable {S : Fs} {c : Act} {Γ : Gam} {n : Nat} {x : Str} {pos : Pos} {r : Rv}
theorem Ev.loc (ok : Ok S c n) (h : locR S Γ x = some r) : Ev (S.env c) c Γ (.Name x pos) r := fun m s Q E G F N k => by
  unfold locR at h
  cases hb : okN S x .local with
  | false => rw [hb] at h; cases h
  | true =>
    rw [hb] at h
    obtain ⟨v, h1, h2⟩ := G x r h
    exact nameX_L F h1 (k v s.heap s.toks F N h2) ok.hk (okN_1 hb) (okN_2 hb)
theorem Ev.glob {v : Value} (ok : Ok S c n) (hb : okN S x .globalImplicit = true) (h : nsIn (KK c) mainGlobals x = some (some v)) : Ev (S.env c) c Γ (.Name x pos) (.ex v) := fun m s Q E G F N k =>
  nameX_K F ok.X (topRead_of ok.T) h (k v s.heap s.toks F N rfl) ok.hk (okN_1 hb) (okN_2 hb)
theorem Ev.gint {i : Int} {t : Tok} (ok : Ok S c n) (hb : okN S x .globalImplicit = true) (h : nsIn (KK c) mainGlobals x = some (some (.int i t))) : Ev (S.env c) c Γ (.Name x pos) (.int i) := fun m s Q E G F N k =>
  nameX_K F ok.X (topRead_of ok.T) h (k _ s.heap s.toks F N ⟨_, rfl⟩) ok.hk (okN_1 hb) (okN_2 hb)
theorem Ev.blt {v : Value} (ok : Ok S c n) (hb : okN S x .globalImplicit = true) (h : nsIn (KK c) mainGlobals x = some none) (hv : bootBuiltins x = some v) (hn : x ≠ Str.ofString "__name__") : Ev (S.env c) c Γ (.Name x pos) (.ex v) := fun m s Q E G F N k =>
  nameX_B F ok.X (topRead_of ok.T) h hv hn (k v s.heap s.toks F N rfl) ok.hk (okN_1 hb) (okN_2 hb)
end
-- an operation on two values comes to r; names, ledger, heap stay
noncomputable def Bn (c : Act) (f : Value → Value → Sem Value) (ra rb r : Rv) : Prop :=
  ∀ (m : Str → Option Value) u v (s : Shared) (Q E : Value → Shared → Prop), Fr c.h₀ c.L s.heap m → News c.h₀ c.L s.heap c.news → ra.ok c u → rb.ok c v → (∀ w tk', r.ok c w → Q w { s with toks := tk' }) → wpAny (model PR c.w) c.A (f u v) Q E s
noncomputable def Un (c : Act) (f : Value → Sem Value) (ra r : Rv) : Prop :=
  ∀ (m : Str → Option Value) u (s : Shared) (Q E : Value → Shared → Prop), Fr c.h₀ c.L s.heap m → News c.h₀ c.L s.heap c.news → ra.ok c u → (∀ w tk', r.ok c w → Q w { s with toks := tk' }) → wpAny (model PR c.w) c.A (f u) Q E s
noncomputable abbrev Rv.bool (b : Bool) : Rv := .ex (.bool b)
section
variable {S : Fs} {V : Env} {c : Act} {Γ : Gam} {n : Nat} {x : Str} {pos : Pos} {k : Nat} {a b e : PySem.Expr} {r ra rb : Rv}
theorem Ev.cint {i : Int} : Ev V c Γ (.Constant (.int i) k pos) (.int i) := fun m s Q E G F N h => wpAny_Constant_int (h _ s.heap _ F N ⟨_, rfl⟩)
theorem Ev.cnone : Ev V c Γ (.Constant .none k pos) (.ex .none) := fun m s Q E G F N h => wpAny_Constant_none (h _ s.heap s.toks F N rfl)
theorem Ev.cbool {i : Bool} : Ev V c Γ (.Constant (.bool i) k pos) (.bool i) := fun m s Q E G F N h => Constant_bool (h _ s.heap s.toks F N rfl)
theorem Ev.cbyt {y : List UInt8} : Ev V c Γ (.Constant (.bytes y) k pos) (.byt y) := fun m s Q E G F N h => Constant_bytes (h _ s.heap _ F N ⟨_, rfl⟩)
theorem Ev.cstr {y : Str} : Ev V c Γ (.Constant (.str y) k pos) (.str y) := fun m s Q E G F N h => PySem.Calls.Constant_str (h _ s.heap _ F N ⟨_, rfl⟩)
theorem Ev.bin {op : Operator} (h1 : Ev V c Γ a ra) (h2 : Ev V c Γ b rb) (H : Bn c (binaryOp op) ra rb r) : Ev V c Γ (.BinOp a op b pos) r := fun m s Q E G F N h =>
  wpAny_BinOp (h1 m s _ _ G F N fun u _ _ F1 N1 hu => h2 m _ _ _ G F1 N1 fun v _ _ F2 N2 hv => H m u v _ _ _ F2 N2 hu hv fun w tk' hw => h w _ tk' F2 N2 hw)
theorem Ev.cmp {op : CmpOp} (h1 : Ev V c Γ a ra) (h2 : Ev V c Γ b rb) (H : Bn c (compareOp op) ra rb r) (hm : behindInMarks op b = false := by rfl) : Ev V c Γ (.Compare a [op] [b] pos) r := fun m s Q E G F N h =>
  wpAny_Compare1 (h1 m s _ _ G F N fun u _ _ F1 N1 hu => h2 m _ _ _ G F1 N1 fun v _ _ F2 N2 hv => H m u v _ _ _ F2 N2 hu hv fun w tk' hw => h w _ tk' F2 N2 hw) hm
theorem Tv.cmp {op : CmpOp} {t : Bool} (h1 : Ev V c Γ a ra) (h2 : Ev V c Γ b rb) (H : Bn c (compareOp op) ra rb (.bool t)) (hm : behindInMarks op b = false := by rfl) : Tv V c Γ (.Compare a [op] [b] pos) t := fun m s wh Q E hw G F N h =>
  wpAny_isTrue_Compare1 (h1 m s _ _ G F N fun u _ _ F1 N1 hu => h2 m _ _ _ G F1 N1 fun v _ _ F2 N2 hv => H m u v _ _ _ F2 N2 hu hv fun w tk' hw => by
    cases hw; exact wpAny_truthy_bool (h _ tk' F2 N2)) hm
theorem Tv.chain {op op' : CmpOp} {d : PySem.Expr} {rd : Rv} {t t' : Bool} (h1 : Ev V c Γ a ra) (h2 : Ev V c Γ b rb) (H : Bn c (compareOp op) ra rb (.bool t)) (h3 : t = true → Ev V c Γ d rd) (H' : t = true → Bn c (compareOp op') rb rd (.bool t'))
    (hm : lastMarks [op, op'] [b, d] = false := by rfl) : Tv V c Γ (.Compare a [op, op'] [b, d] pos) (t && t') := fun m s wh Q E hw G F N h =>
  isTrue_chain (h1 m s _ _ G F N fun u _ _ F1 N1 hu => test_link (h2 m _ _ _ G F1 N1 fun v _ _ F2 N2 hv => H m u v _ _ _ F2 N2 hu hv fun w tk' hw => by
    cases hw
    refine wpAny_truthy_bool ?_
    cases t with
    | false => simp only [Bool.false_eq_true, if_false]; exact h _ tk' F2 N2
    | true => simp only [if_true]; exact test_last (h3 rfl m _ _ _ G F2 N2 fun w2 _ _ F3 N3 hw2 => H' rfl m v w2 _ _ _ F3 N3 hv hw2 fun w3 tk3 hw3 => by
        cases hw3; exact wpAny_truthy_bool (h _ tk3 F3 N3)))) hm
theorem Tv.plain {t : Bool} (h : Ev V c Γ e (.bool t)) (hs : ∀ env whole, PySem.isTrue e env whole = (do let v ← whole; standAt e.pos; holding [v] (truthy v)) := by intro _ _; rfl) : Tv V c Γ e t := fun m s wh Q E hw G F N h2 =>
  isTrue_plain (by rw [hw]; exact h m s _ _ G F N fun v _ tk' F1 N1 hv => by cases hv; exact wpAny_truthy_bool (h2 _ tk' F1 N1)) (hs _ _)
theorem Tv.not {t : Bool} (h : Tv V c Γ e t) : Tv V c Γ (.UnaryOp .Not e pos) (!t) := fun m s wh Q E hw G F N h2 => isTrue_not (h m s _ _ _ rfl G F N h2)
theorem Tv.and_nil : Tv V c Γ (.BoolOp .And [] pos) true := fun m s wh Q E hw G F N h2 => isTrue_and_nil (h2 s.heap s.toks F N)
theorem Tv.or_nil : Tv V c Γ (.BoolOp .Or [] pos) false := fun m s wh Q E hw G F N h2 => isTrue_or_nil (h2 s.heap s.toks F N)
theorem isAnd_whole {M : Model} {A : Around} {env : Env} {rest : List PySem.Expr} {w1 w2 : Sem Value} : PySem.isTrue (.BoolOp .And rest pos) env w1 = PySem.isTrue (.BoolOp .And rest pos) env w2 := by
  cases rest <;> rfl
end
theorem isOr_whole {M : Model} {A : Around} {env : Env} {pos : Pos} {rest : List PySem.Expr} {w1 w2 : Sem Value} : PySem.isTrue (.BoolOp .Or rest pos) env w1 = PySem.isTrue (.BoolOp .Or rest pos) env w2 := by
  cases rest <;> rfl
-- the list of arguments comes to values like rs
inductive AllOk (c : Act) : List Rv → List Value → Prop where
  | nil : AllOk c [] []
  | cons {r : Rv} {v : Value} {rs : List Rv} {vs : List Value} : r.ok c v → AllOk c rs vs → AllOk c (r :: rs) (v :: vs)
inductive EvL (V : Env) (c : Act) (Γ : Gam) : List PySem.Expr → List Rv → Prop where
  | nil : EvL V c Γ [] []
  | cons {e : PySem.Expr} {r : Rv} {es : List PySem.Expr} {rs : List Rv} : Ev V c Γ e r → EvL V c Γ es rs → (hs : ∀ env, starEach (e :: es) env = (false, eval e env) :: starEach es env := by intro _; rfl) → EvL V c Γ (e :: es) (r :: rs)
section
variable {S : Fs} {V : Env} {c : Act} {Γ : Gam} {n : Nat} {x : Str} {pos xp : Pos} {k : Nat} {a b e : PySem.Expr} {r ra rb : Rv} {t t' : Bool}
theorem Tv.and {rest : List PySem.Expr} (h1 : Tv V c Γ e t) (h2 : t = true → Tv V c Γ (.BoolOp .And rest pos) t') : Tv V c Γ (.BoolOp .And (e :: rest) pos) (t && t') := fun m s wh Q E hw G F N h =>
  isTrue_and (h1 m s _ _ _ rfl G F N fun _ _ F1 N1 => by
    cases t with
    | false => simp only [Bool.false_eq_true, if_false]; exact h _ _ F1 N1
    | true => simp only [if_true]; rw [isAnd_whole (M := model PR c.w) (A := c.A) (w2 := eval (.BoolOp .And rest pos) V)]; exact h2 rfl m _ _ _ _ rfl G F1 N1 h)
theorem Tv.or {rest : List PySem.Expr} (h1 : Tv V c Γ e t) (h2 : t = false → Tv V c Γ (.BoolOp .Or rest pos) t') : Tv V c Γ (.BoolOp .Or (e :: rest) pos) (t || t') := fun m s wh Q E hw G F N h =>
  isTrue_or (h1 m s _ _ _ rfl G F N fun _ _ F1 N1 => by
    cases t with
    | true => simp only [if_true]; exact h _ _ F1 N1
    | false => simp only [Bool.false_eq_true, if_false]; rw [isOr_whole (M := model PR c.w) (A := c.A) (w2 := eval (.BoolOp .Or rest pos) V)]; exact h2 rfl m _ _ _ _ rfl G F1 N1 h)
theorem Ev.or2 (h1 : Ev V c Γ a (.bool t)) (h2 : t = false → Ev V c Γ b (.bool t')) : Ev V c Γ (.BoolOp .Or [a, b] pos) (.bool (t || t')) := fun m s Q E G F N h =>
  BoolOp_or (h1 m s _ _ G F N fun v _ _ F1 N1 hv => by
    cases hv
    refine wpAny_truthy_bool ?_
    cases t with
    | true => simp only [if_true]; exact h _ _ _ F1 N1 rfl
    | false => simp only [Bool.false_eq_true, if_false]; exact BoolOp_one (h2 rfl m _ _ _ G F1 N1 h))
theorem Ev.and_one {r : Rv} (h : Ev V c Γ a r) : Ev V c Γ (.BoolOp .And [a] pos) r := fun m s Q E G F N k => BoolOp_one (h m s Q E G F N k)
theorem Ev.and_cons {rest : List PySem.Expr} (h1 : Ev V c Γ a (.bool t)) (h2 : t = true → Ev V c Γ (.BoolOp .And (b :: rest) pos) (.bool t')) : Ev V c Γ (.BoolOp .And (a :: b :: rest) pos) (.bool (t && t')) := fun m s Q E G F N h =>
  BoolOp_and (h1 m s _ _ G F N fun v _ _ F1 N1 hv => by
    cases hv
    refine wpAny_truthy_bool ?_
    cases t with
    | false => simp only [Bool.false_eq_true, if_false]; exact h _ _ _ F1 N1 rfl
    | true => simp only [if_true]; exact h2 rfl m _ _ _ G F1 N1 h)
theorem Ev.and2 (h1 : Ev V c Γ a (.bool t)) (h2 : t = true → Ev V c Γ b (.bool t')) : Ev V c Γ (.BoolOp .And [a, b] pos) (.bool (t && t')) := Ev.and_cons h1 fun h => Ev.and_one (h2 h)
theorem Ev.not (h : Ev V c Γ e (.bool t)) : Ev V c Γ (.UnaryOp .Not e pos) (.bool (!t)) := fun m s Q E G F N h2 =>
  UnaryOp_ (h m s _ _ G F N fun v _ _ F1 N1 hv => by cases hv; exact not_of (wpAny_truthy_bool (h2 _ _ _ F1 N1 rfl)))
theorem Ev.neg {i : Int} (h : Ev V c Γ e (.int i)) : Ev V c Γ (.UnaryOp .USub e pos) (.int (-i)) := fun m s Q E G F N h2 =>
  UnaryOp_ (h m s _ _ G F N fun v _ _ F1 N1 hv => by obtain ⟨u, rfl⟩ := hv; exact neg_int (h2 _ _ _ F1 N1 ⟨_, rfl⟩))
theorem Ev.ite {d : PySem.Expr} (h1 : Tv V c Γ e t) (h2 : t = true → Ev V c Γ a r) (h3 : t = false → Ev V c Γ d r) : Ev V c Γ (.IfExp e a d pos) r := fun m s Q E G F N h =>
  IfExp_ (h1 m s _ _ _ rfl G F N fun _ _ F1 N1 => by
    cases t with
    | true => simp only [if_true]; exact h2 rfl m _ _ _ G F1 N1 h
    | false => simp only [Bool.false_eq_true, if_false]; exact h3 rfl m _ _ _ G F1 N1 h)
theorem EvL.plain {es : List PySem.Expr} {rs : List Rv} (h : EvL V c Γ es rs) (env : Env) : (backTo pos (starEach es env)).any (·.1) = false := by
  induction h with
  | nil => rfl
  | cons _ _ hs ih => rw [hs env]; exact ih
theorem EvL.args {es : List PySem.Expr} {rs : List Rv} (h : EvL V c Γ es rs) : ∀ m (s : Shared) (Q : List Value → Shared → Prop) (E : Value → Shared → Prop), GOk c Γ m → Fr c.h₀ c.L s.heap m → News c.h₀ c.L s.heap c.news →
    (∀ vs h' tk', Fr c.h₀ c.L h' m → News c.h₀ c.L h' c.news → AllOk c rs vs → Q vs { s with heap := h', toks := tk' }) → wpAny (model PR c.w) c.A (spliced (backTo pos (starEach es V))) Q E s := by
  induction h with
  | nil => exact fun m s Q E G F N h => args_nil (h [] s.heap s.toks F N .nil)
  | cons h1 _ hs ih => exact fun m s Q E G F N h => args_cons (h1 m s _ _ G F N fun v _ _ F1 N1 hv => ih m _ _ _ G F1 N1 fun vs _ _ F2 N2 hvs => h (v :: vs) _ _ F2 N2 (.cons hv hvs)) (hs _)
-- a def's promise: from values like rs it hands back a value like r; nothing else changes
noncomputable def GivesR (lev : Nat) (f : Addr) (rs : List Rv) (r : Rv) : Prop :=
  ∀ (S : Fs) (c : Act), Ok S c lev → ∀ vs m (s : Shared) (Q E : Value → Shared → Prop), AllOk c rs vs → Fr c.h₀ c.L s.heap m → News c.h₀ c.L s.heap c.news →
    (∀ v h' tk', Fr c.h₀ c.L h' m → News c.h₀ c.L h' c.news → r.ok c v → Q v { s with heap := h', toks := tk' }) → wpAny (model PR c.w) c.A (call (.ref f) vs) Q E s
theorem EvL.head {e₁ : PySem.Expr} {es : List PySem.Expr} {rs : List Rv} (h : EvL V c Γ (e₁ :: es) rs) (env : Env) : starEach (e₁ :: es) env = (false, eval e₁ env) :: starEach es env := by cases h with | cons _ _ hs => exact hs env
theorem EvL.tail {e₁ : PySem.Expr} {es : List PySem.Expr} {rs : List Rv} (h : EvL V c Γ (e₁ :: es) rs) (env : Env) : (backTo pos (starEach es env)).any (·.1) = false := by cases h with | cons _ h3 _ => exact h3.plain env
theorem Ev.callE {f : Addr} {lev : Nat} {e₁ : PySem.Expr} {es : List PySem.Expr} {rs : List Rv} (ok : Ok S c n) (hn : Ev V c Γ (.Name x xp) (.ex (.ref f))) (hf : keepIn (KK c) (.ref f) = true)
    (C : GivesR lev f rs r) (hl : lev ≤ n) (hes : EvL V c Γ (e₁ :: es) rs) : Ev V c Γ (.Call (.Name x xp) (e₁ :: es) [] pos) r := fun m s Q E G F N h2 =>
  Call_ (hn m s _ _ G F N fun v _ _ F1 N1 hv => by
    cases hv
    refine callWith_K ok.X hf (hes.args m _ _ _ G F1 N1 fun vs _ _ F2 N2 hvs => ⟨ok.X.keeps F2.keep, ?_⟩) (hes.head _) (hes.tail _)
    exact C S c (ok.mono hl) vs m _ _ _ hvs F2 N2 fun v _ _ F3 N3 hv => h2 v _ _ F3 N3 hv)
theorem Ev.call {f : Addr} {lev : Nat} {e₁ : PySem.Expr} {es : List PySem.Expr} {rs : List Rv} (ok : Ok S c n) (hb : okN S x .globalImplicit = true) (h : nsIn (KK c) mainGlobals x = some (some (.ref f))) (hf : keepIn (KK c) (.ref f) = true)
    (C : GivesR lev f rs r) (hl : lev ≤ n) (hes : EvL (S.env c) c Γ (e₁ :: es) rs) : Ev (S.env c) c Γ (.Call (.Name x xp) (e₁ :: es) [] pos) r := Ev.callE ok (Ev.glob ok hb h) hf C hl hes
-- a call of a built-in function
theorem Ev.bcallE {id : String} {e₁ : PySem.Expr} {es : List PySem.Expr} {rs : List Rv} (hn : Ev V c Γ (.Name x xp) (.ex (.builtin id))) (hes : EvL V c Γ (e₁ :: es) rs)
    (C : ∀ vs (m : Str → Option Value) (s : Shared) (Q E : Value → Shared → Prop), AllOk c rs vs → Fr c.h₀ c.L s.heap m → News c.h₀ c.L s.heap c.news → (∀ v tk', r.ok c v → Q v { s with toks := tk' }) → wpAny (model PR c.w) c.A (PySem.call (.builtin id) vs) Q E s) :
    Ev V c Γ (.Call (.Name x xp) (e₁ :: es) [] pos) r := fun m s Q E G F N h2 =>
  Call_ (hn m s _ _ G F N fun v _ _ F1 N1 hv => by
    cases hv
    exact PyProof.Rows.callWith_builtin1 (hes.args m _ _ _ G F1 N1 fun vs _ _ F2 N2 hvs => C vs m _ _ _ hvs F2 N2 fun v tk hv => h2 v _ tk F2 N2 hv) (hes.head _) (hes.tail _))
theorem Ev.bcall {id : String} {e₁ : PySem.Expr} {es : List PySem.Expr} {rs : List Rv} (ok : Ok S c n) (hb : okN S x .globalImplicit = true) (h : nsIn (KK c) mainGlobals x = some none) (hv : bootBuiltins x = some (.builtin id)) (hn : x ≠ Str.ofString "__name__")
    (hes : EvL (S.env c) c Γ (e₁ :: es) rs)
    (C : ∀ vs (m : Str → Option Value) (s : Shared) (Q E : Value → Shared → Prop), AllOk c rs vs → Fr c.h₀ c.L s.heap m → News c.h₀ c.L s.heap c.news → (∀ v tk', r.ok c v → Q v { s with toks := tk' }) → wpAny (model PR c.w) c.A (PySem.call (.builtin id) vs) Q E s) :
    Ev (S.env c) c Γ (.Call (.Name x xp) (e₁ :: es) [] pos) r := Ev.bcallE (Ev.blt ok hb h hv hn) hes C
theorem Ev.sub {v i : PySem.Expr} (h1 : Ev V c Γ v ra) (h2 : Ev V c Γ i rb) (H : Bn c (subscriptTail v i) ra rb r) : Ev V c Γ (.Subscript v i pos) r := fun m s Q E G F N h =>
  Subscript_ (h1 m s _ _ G F N fun u _ _ F1 N1 hu => h2 m _ _ _ G F1 N1 fun v _ _ F2 N2 hv => H m u v _ _ _ F2 N2 hu hv fun w tk' hw => h w _ tk' F2 N2 hw)
theorem Ev.attr {y : Str} {xp : Pos} (h1 : Ev V c Γ (.Name x xp) ra) (H : Un c (fun o => getAttr o y true) ra r) : Ev V c Γ (.Attribute (.Name x xp) y pos) r := fun m s Q E G F N h =>
  Attribute_name (h1 m s _ _ G F N fun u _ _ F1 N1 hu => H m u _ _ _ F1 N1 hu fun w tk' hw => h w _ tk' F1 N1 hw)
end
section
variable {S : Fs} {V : Env} {c : Act} {Γ Γ' : Gam} {n : Nat} {x : Str} {pos : Pos} {e : PySem.Expr} {r : Rv} {t : Bool} {rest body orelse : List Stmt} {m : Str → Option Value} {R : Flow → (Str → Option Value) → Heap → Prop}
theorem Ex.nil (h : ∀ m h, GOk c Γ m → News c.h₀ c.L h c.news → R .next m h) : Ex S c Γ [] R := fun m s Q E O G F N k => wpAny_execs_nil (k .next s.heap s.toks m F (h m _ G N))
theorem Ev.int_of {i j : Int} (q : i = j) (h : Ev V c Γ e (.int i)) : Ev V c Γ e (.int j) := q ▸ h
theorem Ev.bool_of {i j : Bool} (q : i = j) (h : Ev V c Γ e (.ex (.bool i))) : Ev V c Γ e (.ex (.bool j)) := q ▸ h
theorem Tv.of {i j : Bool} (q : i = j) (h : Tv V c Γ e i) : Tv V c Γ e j := q ▸ h
theorem Ex.ret (h : Ev (S.env c) c Γ e r) : Ex S c Γ (.Return (some e) pos :: rest) (Ret c r) := fun m s Q E O G F N k =>
  wpAny_execs_cons (wpAny_Return_some (h m s _ _ G F N fun v h' tk' F1 N1 hv => k (.ret v) h' tk' m F1 ⟨v, rfl, N1, hv⟩))
theorem Ex.if_ (h : Tv (S.env c) c Γ e t) (h1 : t = true → Ex S c Γ body R) (h0 : t = false → Ex S c Γ orelse R) (hR : ∀ m h, R .next m h → False) : Ex S c Γ (.If e body orelse pos :: rest) R := fun m s Q E O G F N k =>
  wpAny_execs_cons (wpAny_If (h m s _ _ _ rfl G F N fun _ _ F1 N1 => by
    cases t with
    | true =>
      simp only [if_true]
      exact h1 rfl m _ _ _ O G F1 N1 fun f h' tk' m' F' hr => by
        cases f with
        | next => exact (hR _ _ hr).elim
        | ret v => exact k _ _ _ _ F' hr
        | brk => exact k _ _ _ _ F' hr
        | cont => exact k _ _ _ _ F' hr
    | false =>
      simp only [Bool.false_eq_true, if_false]
      exact h0 rfl m _ _ _ O G F1 N1 fun f h' tk' m' F' hr => by
        cases f with
        | next => exact (hR _ _ hr).elim
        | ret v => exact k _ _ _ _ F' hr
        | brk => exact k _ _ _ _ F' hr
        | cont => exact k _ _ _ _ F' hr))
-- a test that leaves, or the rest
theorem Ex.ifr (h : Tv (S.env c) c Γ e t) (h1 : t = true → Ex S c Γ body R) (h0 : t = false → Ex S c Γ rest R) (hR : ∀ m h, R .next m h → False) : Ex S c Γ (.If e body [] pos :: rest) R := fun m s Q E O G F N k =>
  wpAny_execs_cons (wpAny_If (h m s _ _ _ rfl G F N fun _ _ F1 N1 => by
    cases t with
    | true =>
      simp only [if_true]
      exact h1 rfl m _ _ _ O G F1 N1 fun f h' tk' m' F' hr => by
        cases f with
        | next => exact (hR _ _ hr).elim
        | ret v => exact k _ _ _ _ F' hr
        | brk => exact k _ _ _ _ F' hr
        | cont => exact k _ _ _ _ F' hr
    | false =>
      simp only [Bool.false_eq_true, if_false]
      exact wpAny_execs_nil (h0 rfl m _ _ _ O G F1 N1 k)))
-- one statement
noncomputable def Es (S : Fs) (c : Act) (Γ : Gam) (st : Stmt) (R : Flow → (Str → Option Value) → Heap → Prop) : Prop :=
  ∀ m (s : Shared) (Q : Flow → Shared → Prop) (E : Value → Shared → Prop), PassesOwn (model PR c.w) c.A (S.env c) E → GOk c Γ m → Fr c.h₀ c.L s.heap m → News c.h₀ c.L s.heap c.news →
    (∀ f h' tk' m', Fr c.h₀ c.L h' m' → R f m' h' → Q f { s with heap := h', toks := tk' }) → wpAny (model PR c.w) c.A (exec st (S.env c)) Q E s
theorem Ex.seq {st : Stmt} (h1 : Es S c Γ st (Nxt c Γ')) (h2 : Ex S c Γ' rest R) : Ex S c Γ (st :: rest) R := fun m s Q E O G F N k =>
  wpAny_execs_cons (h1 m s _ _ O G F N fun f h' tk' m' F' hr => by
    obtain ⟨rfl, N', G'⟩ := hr
    exact h2 m' _ _ _ O G' F' N' k)
-- a statement that leaves
theorem Ex.last {st : Stmt} (h1 : Es S c Γ st R) (hR : ∀ m h, R .next m h → False) : Ex S c Γ (st :: rest) R := fun m s Q E O G F N k =>
  wpAny_execs_cons (h1 m s _ _ O G F N fun f h' tk' m' F' hr => by
    cases f with
    | next => exact (hR _ _ hr).elim
    | ret v => exact k _ _ _ _ F' hr
    | brk => exact k _ _ _ _ F' hr
    | cont => exact k _ _ _ _ F' hr)
theorem Es.if_ (h : Tv (S.env c) c Γ e t) (h1 : t = true → Ex S c Γ body R) (h0 : t = false → Ex S c Γ orelse R) : Es S c Γ (.If e body orelse pos) R := fun m s Q E O G F N k =>
  wpAny_If (h m s _ _ _ rfl G F N fun _ _ F1 N1 => by
    cases t with
    | true => simp only [if_true]; exact h1 rfl m _ _ _ O G F1 N1 k
    | false => simp only [Bool.false_eq_true, if_false]; exact h0 rfl m _ _ _ O G F1 N1 k)
theorem Es.assign {xp : Pos} (ok : Ok S c n) (hb : okN S x .local = true) (h : Ev (S.env c) c Γ e r) (hs : ∀ env, swapsWith e (some (.Name x xp)) pos.line env = pure false := by intro _; rfl) : Es S c Γ (.Assign [.Name x xp] e pos) (Nxt c ((x, r) :: Γ)) := fun m s Q E O G F N k =>
  wpAny_Assign_Name (h m s _ _ G F N fun v _ _ F1 N1 hv => storeX_L F1 N1 (fun h' F2 N2 => k .next h' _ _ F2 ⟨rfl, N2, G.set hv⟩) ok.hk (okN_1 hb)) (hs _)
theorem Es.break_ (h : ∀ m h, GOk c Γ m → News c.h₀ c.L h c.news → R .brk m h) : Es S c Γ (.Break pos) R := fun m s Q E O G F N k => wpAny_Break (k .brk s.heap s.toks m F (h m _ G N))
theorem ret_next {m : Str → Option Value} {h : Heap} (q : Ret c r .next m h) : False := by
  obtain ⟨v, e, _⟩ := q; cases e
-- all names of the one stand in the other
inductive GSub (Γ : Gam) : Gam → Prop where
  | nil : GSub Γ []
  | cons {x : Str} {r : Rv} {Γ' : Gam} : Γ.lookup x = some r → GSub Γ Γ' → GSub Γ ((x, r) :: Γ')
theorem GOk.sub (G : GOk c Γ m) {Γ' : Gam} (h : GSub Γ Γ') : GOk c Γ' m := by
  induction h with
  | nil => exact fun y q e => nomatch e
  | @cons x r _ h1 _ ih =>
    intro y q e
    rw [List.lookup_cons] at e
    cases hy : y == x with
    | true => rw [hy] at e; cases e; rw [beq_iff_eq.mp hy]; exact G x r h1
    | false => rw [hy] at e; exact ih y q e
theorem Ex.sub (h : GSub Γ Γ') (h2 : Ex S c Γ' rest R) : Ex S c Γ rest R := fun m s Q E O G F N k => h2 m s Q E O (G.sub h) F N k
-- a turn's end
noncomputable def Turn (c : Act) {σ : Type} (Γs : σ → Gam) (I : σ → Prop) (μ : σ → Nat) (R : Flow → (Str → Option Value) → Heap → Prop) (x : σ) (f : Flow) (m : Str → Option Value) (h : Heap) : Prop := match f with
  | .next | .cont => News c.h₀ c.L h c.news ∧ ∃ y, μ y < μ x ∧ I y ∧ GOk c (Γs y) m
  | .brk => R .next m h
  | .ret v => R (.ret v) m h
theorem Es.while_ {σ : Type} (Γs : σ → Gam) (I : σ → Prop) (μ : σ → Nat) (t : σ → Bool) (c₀ : σ) (hG : GSub Γ (Γs c₀)) (hI : I c₀) (ht : ∀ x, I x → Tv (S.env c) c (Γs x) e (t x)) (hb : ∀ x, I x → t x = true → Ex S c (Γs x) body (Turn c Γs I μ R x))
    (he : ∀ x, I x → t x = false → ∀ m h, GOk c (Γs x) m → News c.h₀ c.L h c.news → R .next m h) : Es S c Γ (.While e body [] pos) R := fun m s Q E O G F N k => by
  refine While_inv2 (fun n m nx => nx = c.news ∧ ∃ x, μ x = n ∧ I x ∧ GOk c (Γs x) m) F N ⟨rfl, c₀, rfl, hI, G.sub hG⟩ ?_ O
  rintro n m₁ nx h tk F₁ N₁ ⟨rfl, x, rfl, hx, G₁⟩
  refine ht x hx m₁ _ _ _ _ rfl G₁ F₁ N₁ fun h2 tk2 F2 N2 => ?_
  cases htx : t x with
  | false => simp only [Bool.false_eq_true, if_false]; exact k .next h2 tk2 m₁ F2 (he x hx htx m₁ h2 G₁ N2)
  | true =>
    simp only [if_true]
    refine hb x hx htx m₁ _ _ _ O G₁ F2 N2 fun f h3 tk3 m3 F3 hr => ?_
    cases f with
    | next => obtain ⟨N3, y, h4, h5, h6⟩ := hr; exact ⟨h3, tk3, m3, c.news, μ y, rfl, F3, N3, h4, rfl, y, rfl, h5, h6⟩
    | cont => obtain ⟨N3, y, h4, h5, h6⟩ := hr; exact ⟨h3, tk3, m3, c.news, μ y, rfl, F3, N3, h4, rfl, y, rfl, h5, h6⟩
    | brk => exact k .next h3 tk3 m3 F3 hr
    | ret v => exact k (.ret v) h3 tk3 m3 F3 hr
-- a def's promise from its body
noncomputable def AllV : Nat → (List Value → Prop) → Prop
  | 0, p => p []
  | n + 1, p => ∀ v, AllV n fun vs => p (v :: vs)
theorem AllV.at {n : Nat} {p : List Value → Prop} (h : AllV n p) (vs : List Value) (e : vs.length = n) : p vs := by
  induction n generalizing p vs with
  | zero => rw [List.length_eq_zero_iff.mp e]; exact h
  | succ n ih =>
    cases vs with
    | nil => exact nomatch e
    | cons v vs => exact ih (h v) vs (Nat.succ.inj e)
theorem AllOk.length {rs : List Rv} {vs : List Value} (h : AllOk c rs vs) : vs.length = rs.length := by
  induction h with
  | nil => rfl
  | cons _ _ ih => rw [List.length_cons, List.length_cons, ih]
theorem lookup_snoc {β : Type} {y : Str} {l : List (Str × β)} {p : Str × β} : (l ++ [p]).lookup y = match l.lookup y with | some v => some v | none => if y == p.1 then some p.2 else none := by
  induction l with
  | nil =>
    rw [List.nil_append, List.lookup_cons, List.lookup_nil]
    cases y == p.1 <;> rfl
  | cons q l ih =>
    rw [List.cons_append, List.lookup_cons, List.lookup_cons]
    cases y == q.1
    · exact ih
    · rfl
-- what a list of names and a list of values say of a name
noncomputable def GokAt (c : Act) (a : Option Rv) (b : Option Value) : Prop := match a with | some r => ∃ v, b = some v ∧ r.ok c v | none => b = none
theorem gok_args {xs : List Str} {rs : List Rv} {vs : List Value} (h : AllOk c rs vs) (y : Str) : GokAt c (((xs.zip rs).reverse).lookup y) (((xs.zip vs).reverse).lookup y) := by
  induction h generalizing xs with
  | nil => rw [List.zip_nil_right, List.zip_nil_right]; rfl
  | @cons r v rs vs h1 h2 ih =>
    cases xs with
    | nil => exact rfl
    | cons x xs =>
      have ih := ih (xs := xs)
      rw [List.zip_cons_cons, List.zip_cons_cons, List.reverse_cons, List.reverse_cons, lookup_snoc, lookup_snoc]
      cases hq : ((xs.zip rs).reverse).lookup y with
      | some q =>
        rw [hq] at ih
        obtain ⟨u, h3, h4⟩ := ih
        exact ⟨u, by rw [h3], h4⟩
      | none =>
        rw [hq] at ih
        rw [show ((xs.zip vs).reverse).lookup y = none from ih]
        cases y == x
        · exact rfl
        · exact ⟨v, rfl, h1⟩
theorem rv_same {c c' : Act} (hn : c'.news = c.news) (hb : c'.base = c.base) {r : Rv} {v : Value} (h : r.ok c v) : r.ok c' v := by
  cases r with
  | dat d => show VRel c'.news v d; rw [hn]; exact h
  | lim b => show LimRel c'.news v b; rw [hn]; exact h
  | scr ns => obtain ⟨l, vs, h1, h2, h3⟩ := h; exact ⟨l, vs, h1, by rw [hb]; exact h2, h3⟩
  | ex _ => exact h
  | int _ => exact h
  | byt _ => exact h
  | str _ => exact h
  | held _ => exact h
  | num o => cases o <;> exact h
  | txt o => cases o <;> exact h
theorem all_same {c c' : Act} (hn : c'.news = c.news) (hb : c'.base = c.base) {rs : List Rv} {vs : List Value} (h : AllOk c rs vs) : AllOk c' rs vs := by
  induction h with
  | nil => exact .nil
  | cons h1 _ ih => exact .cons (rv_same hn hb h1) ih
-- what a call comes to, of any kind: P says of the frame's facts, the value and the ledger behind it
noncomputable def Does (lev : Nat) (f : Addr) (rs : List Rv) (P : Act → Value → Led → Prop) : Prop :=
  ∀ (S : Fs) (c : Act), Ok S c lev → ∀ vs m (s : Shared) (Q E : Value → Shared → Prop), AllOk c rs vs → Fr c.h₀ c.L s.heap m → News c.h₀ c.L s.heap c.news →
    (∀ v nw h' tk', Fr c.h₀ c.L h' m → News c.h₀ c.L h' nw → P c v nw → Q v { s with heap := h', toks := tk' }) → wpAny (model PR c.w) c.A (call (.ref f) vs) Q E s
noncomputable def RetP (P : Act → Value → Led → Prop) (c : Act) (f : Flow) (_ : Str → Option Value) (h : Heap) : Prop := ∃ v nw, f = .ret v ∧ News c.h₀ c.L h nw ∧ P c v nw
theorem retP_next {P : Act → Value → Led → Prop} {m : Str → Option Value} {h : Heap} (q : RetP P c .next m h) : False := by
  obtain ⟨v, nw, e, _⟩ := q; cases e
noncomputable def valOf : Flow → Value
  | .ret v => v
  | _ => .none
theorem does_code {lev : Nat} {f : Addr} {rs : List Rv} {P : Act → Value → Led → Prop} {Pre : Led → Prop} {name qual : Str} {params : Arguments} {fbody : List Stmt} {scope : Scope} {dV kV doc pm cdv ct oc : Value} {an od : Option Addr} {osl : Array (Option Value)} {xs : List Str}
    (hK : ∀ P, List.lookup f (Mine.KF P) = some { cls := oc, dict := od, data := Data.func (fnOf name qual params fbody scope dV kV doc pm an cdv ct), slots := osl })
    (hC : ∀ P, codeIn (Mine.KF P) cdv qual = true)
    (hx : ∀ x ∈ xs, scope.names.lookup x = some .local) (c2 : scope.isCoroutine = false) (c3 : scope.isGenerator = false) (c4 : scope.kind = ScopeKind.function) (c5 : ∀ x ∈ scope.names, x.2 ≠ NameKind.cell)
    (hP : ∀ c c' v nw, c'.w = c.w → c'.news = c.news → c'.base = c.base → P c' v nw → P c v nw)
    {RR : Act → Flow → (Str → Option Value) → Heap → Prop} (hRR : ∀ c f m h, RR c f m h → ∃ nw, News c.h₀ c.L h nw ∧ P c (valOf f) nw)
    (D : ∀ c, Ok ⟨qual, scope, f, cdv, []⟩ c lev → Pre c.news → Ex ⟨qual, scope, f, cdv, []⟩ c (xs.zip rs).reverse fbody (RR c))
    {S : Fs} {c : Act} {vs : List Value} {args : Args} {m : Str → Option Value} {s : Shared} {Q : Result → Shared → Prop} (ok : Ok S c (lev + 1)) (hb : BindsTo s (fnOf name qual params fbody scope dV kV doc pm an cdv ct) args (xs.zip vs)) (hpre : Pre c.news) (hvs : AllOk c rs vs) (F : Fr c.h₀ c.L s.heap m) (N : News c.h₀ c.L s.heap c.news)
    (k : ∀ v nw h' tk', Fr c.h₀ c.L h' m → News c.h₀ c.L h' nw → P c v nw → Q (.ok (.ret v)) { s with heap := h', toks := tk' }) : codeAny (model PR c.w) c.A (Code.call (.ref f) args) Q s := by
  refine code_def (binds := xs.zip vs) ok.B F ok.X N ok.T ok.fr rfl ok.hk (hK _) (hC _) (by have := ok.hd; (first | lia | omega)) hb ?_ ?_ c2 c3 c4 c5
  · intro y hy
    exact hx _ (List.of_mem_zip hy).1
  · intro g L' h₁ FG F' N' B' X' T'
    let c' : Act := { c with A := c.A.deeper (envOf qual scope L' f cdv), outer := S.env c :: c.outer, A₀ := c.A, h₀ := g, L := L' }
    have ok' : Ok ⟨qual, scope, f, cdv, []⟩ c' lev := ⟨B', X', T', by show (Around.deeper _ _).frames = _; rw [Around.frames_deeper ok.fr]; rfl, ok.hh, c4, by have := ok.hd; show c.A.depth + 1 + lev < _; (first | lia | omega), by have := ok.hu; show c.A.units + 3 + 20 * lev < _; (first | lia | omega)⟩
    have hvs' : AllOk c' rs vs := all_same (c := c) (c' := c') rfl rfl hvs
    have G' : GOk c' (xs.zip rs).reverse (fun y => List.lookup y (xs.zip vs).reverse) := fun y r e => by
      have := gok_args (xs := xs) hvs' y
      rw [e] at this
      exact this
    refine D c' ok' hpre _ _ _ _ (by passes_own) G' F' N' ?_
    intro fl h' tk' m' F2 hr
    obtain ⟨nw, N2, hv⟩ := hRR c' fl m' h' hr
    cases fl <;> exact leaveK_ F2 N2 fun F3 N3 => k _ nw h' tk' F3 N3 (hP c c' _ nw rfl rfl rfl hv)
theorem retP_out {P : Act → Value → Led → Prop} (c : Act) (f : Flow) (m : Str → Option Value) (h : Heap) (q : RetP P c f m h) : ∃ nw, News c.h₀ c.L h nw ∧ P c (valOf f) nw := by
  obtain ⟨v, nw, rfl, h1, h2⟩ := q
  exact ⟨nw, h1, h2⟩
theorem does_fn {lev : Nat} {f : Addr} {rs : List Rv} {P : Act → Value → Led → Prop} {name qual : Str} {params : Arguments} {fbody : List Stmt} {scope : Scope} {dV kV doc pm cdv ct oc : Value} {an od : Option Addr} {osl : Array (Option Value)} {xs : List Str}
    (hK : ∀ P, List.lookup f (Mine.KF P) = some { cls := oc, dict := od, data := Data.func (fnOf name qual params fbody scope dV kV doc pm an cdv ct), slots := osl })
    (hC : ∀ P, codeIn (Mine.KF P) cdv qual = true)
    (hb : AllV rs.length fun vs => ∀ s, BindsTo s (fnOf name qual params fbody scope dV kV doc pm an cdv ct) { pos := vs, kw := [] } (xs.zip vs))
    (hx : ∀ x ∈ xs, scope.names.lookup x = some .local) (c2 : scope.isCoroutine = false) (c3 : scope.isGenerator = false) (c4 : scope.kind = ScopeKind.function) (c5 : ∀ x ∈ scope.names, x.2 ≠ NameKind.cell)
    (hP : ∀ c c' v nw, c'.w = c.w → c'.news = c.news → c'.base = c.base → P c' v nw → P c v nw)
    (D : ∀ c, Ok ⟨qual, scope, f, cdv, []⟩ c lev → Ex ⟨qual, scope, f, cdv, []⟩ c (xs.zip rs).reverse fbody (RetP P c)) : Does (lev + 1) f rs P := fun S c ok vs m s Q E hvs F N k =>
  wpAny_call (does_code (Pre := fun _ => True) hK hC hx c2 c3 c4 c5 hP retP_out (fun c h _ => D c h) ok (AllV.at hb vs hvs.length s) trivial hvs F N fun v nw h' tk' F' N' h => k v nw h' tk' F' N' h)
theorem givesR_fn {lev : Nat} {f : Addr} {rs : List Rv} {name qual : Str} {params : Arguments} {fbody : List Stmt} {scope : Scope} {dV kV doc pm cdv ct oc : Value} {an od : Option Addr} {osl : Array (Option Value)} {xs : List Str}
    (hK : ∀ P, List.lookup f (Mine.KF P) = some { cls := oc, dict := od, data := Data.func (fnOf name qual params fbody scope dV kV doc pm an cdv ct), slots := osl })
    (hC : ∀ P, codeIn (Mine.KF P) cdv qual = true)
    (hb : AllV rs.length fun vs => ∀ s, BindsTo s (fnOf name qual params fbody scope dV kV doc pm an cdv ct) { pos := vs, kw := [] } (xs.zip vs))
    (hx : ∀ x ∈ xs, scope.names.lookup x = some .local) (c2 : scope.isCoroutine = false) (c3 : scope.isGenerator = false) (c4 : scope.kind = ScopeKind.function) (c5 : ∀ x ∈ scope.names, x.2 ≠ NameKind.cell)
    (D : ∀ c, Ok ⟨qual, scope, f, cdv, []⟩ c lev → Ex ⟨qual, scope, f, cdv, []⟩ c (xs.zip rs).reverse fbody (Ret c r)) : GivesR (lev + 1) f rs r := by
  intro S c ok vs m s Q E hvs F N k
  refine does_fn (P := fun c v nw => nw = c.news ∧ r.ok c v) hK hC hb hx c2 c3 c4 c5 (fun c c' v nw _ h1 h2 h3 => ⟨h3.1.trans h1, rv_same h1.symm h2.symm h3.2⟩) (fun c' ok' => ?_) S c ok vs m s Q E hvs F N ?_
  · intro m1 s1 Q1 E1 O G1 F1 N1 k1
    refine D c' ok' m1 s1 Q1 E1 O G1 F1 N1 fun f h' tk' m' F2 hr => ?_
    obtain ⟨v, rfl, N2, hv⟩ := hr
    exact k1 _ h' tk' m' F2 ⟨v, _, rfl, N2, rfl, hv⟩
  · rintro v nw h' tk' F2 N2 ⟨rfl, hv⟩
    exact k v h' tk' F2 N2 hv
end
section
variable {c : Act}
theorem Bn.add {i j : Int} : Bn c (binaryOp .Add) (.int i) (.int j) (.int (i + j)) := fun m u v s Q E F N ⟨_, hu⟩ ⟨_, hv⟩ k => by subst hu hv; exact add_int (k _ _ ⟨_, rfl⟩)
theorem Bn.sub {i j : Int} : Bn c (binaryOp .Sub) (.int i) (.int j) (.int (i - j)) := fun m u v s Q E F N ⟨_, hu⟩ ⟨_, hv⟩ k => by subst hu hv; exact sub_int (k _ _ ⟨_, rfl⟩)
theorem Bn.and {i j : Int} : Bn c (binaryOp .BitAnd) (.int i) (.int j) (.int (Builtin.bitAnd i j)) := fun m u v s Q E F N ⟨_, hu⟩ ⟨_, hv⟩ k => by subst hu hv; exact and_int (k _ _ ⟨_, rfl⟩)
theorem Bn.xor {i j : Int} : Bn c (binaryOp .BitXor) (.int i) (.int j) (.int (Builtin.bitXor i j)) := fun m u v s Q E F N ⟨_, hu⟩ ⟨_, hv⟩ k => by subst hu hv; exact xor_int (k _ _ ⟨_, rfl⟩)
theorem Bn.mod {i j : Int} (h : j ≠ 0) : Bn c (binaryOp .Mod) (.int i) (.int j) (.int (i.fmod j)) := fun m u v s Q E F N ⟨_, hu⟩ ⟨_, hv⟩ k => by subst hu hv; exact mod_int' h (k _ _ ⟨_, rfl⟩)
theorem Bn.fdiv {i j : Int} (h : j ≠ 0) (hj : j.natAbs < 1073741824) : Bn c (binaryOp .FloorDiv) (.int i) (.int j) (.int (i.fdiv j)) := fun m u v s Q E F N ⟨_, hu⟩ ⟨_, hv⟩ k => by subst hu hv; exact floordiv_int h (k _ _ ⟨_, rfl⟩) (Or.inl (PyProof.noPylong_small hj))
theorem Bn.mul {i j : Int} (h : IntMulOk i j) : Bn c (binaryOp .Mult) (.int i) (.int j) (.int (i * j)) := fun m u v s Q E F N ⟨_, hu⟩ ⟨_, hv⟩ k => by subst hu hv; exact mul_int (k _ _ ⟨_, rfl⟩) h
theorem Bn.shl {i j : Int} (h : 0 ≤ j) (hb : ((Builtin.Int.intBits i : Nat) : Int) + j ≤ 2 ^ 27) : Bn c (binaryOp .LShift) (.int i) (.int j) (.int (i * 2 ^ j.toNat)) := fun m u v s Q E F N ⟨_, hu⟩ ⟨_, hv⟩ k => by subst hu hv; exact lshift_int h hb (k _ _ ⟨_, rfl⟩)
theorem Bn.shr {i j : Int} (h : 0 ≤ j) : Bn c (binaryOp .RShift) (.int i) (.int j) (.int (i.fdiv (2 ^ j.toNat))) := fun m u v s Q E F N ⟨_, hu⟩ ⟨_, hv⟩ k => by subst hu hv; exact rshift_int h (k _ _ ⟨_, rfl⟩)
theorem Bn.pow {i j : Int} (h : 0 ≤ j) (h1 : j ≤ 1000000) (h2 : i.natAbs < 2 ^ 64) : Bn c (binaryOp .Pow) (.int i) (.int j) (.int (i ^ j.toNat)) := fun m u v s Q E F N ⟨_, hu⟩ ⟨_, hv⟩ k => by subst hu hv; exact pow_int_small h h1 h2 (k _ _ ⟨_, rfl⟩)
theorem Bn.lt {i j : Int} : Bn c (compareOp .Lt) (.int i) (.int j) (.bool (decide (i < j))) := fun m u v s Q E F N ⟨_, hu⟩ ⟨_, hv⟩ k => by subst hu hv; exact lt_int (k _ s.toks rfl)
theorem Bn.le {i j : Int} : Bn c (compareOp .LtE) (.int i) (.int j) (.bool (decide (i ≤ j))) := fun m u v s Q E F N ⟨_, hu⟩ ⟨_, hv⟩ k => by subst hu hv; exact le_int (k _ s.toks rfl)
theorem Bn.gt {i j : Int} : Bn c (compareOp .Gt) (.int i) (.int j) (.bool (decide (i > j))) := fun m u v s Q E F N ⟨_, hu⟩ ⟨_, hv⟩ k => by subst hu hv; exact gt_int (k _ s.toks rfl)
theorem Bn.ge {i j : Int} : Bn c (compareOp .GtE) (.int i) (.int j) (.bool (decide (i ≥ j))) := fun m u v s Q E F N ⟨_, hu⟩ ⟨_, hv⟩ k => by subst hu hv; exact ge_int (k _ s.toks rfl)
theorem Bn.eq {i j : Int} : Bn c (compareOp .Eq) (.int i) (.int j) (.bool (i == j)) := fun m u v s Q E F N ⟨_, hu⟩ ⟨_, hv⟩ k => by subst hu hv; exact PyProof.Rows.eq_int (k _ s.toks rfl)
theorem Bn.ne {i j : Int} : Bn c (compareOp .NotEq) (.int i) (.int j) (.bool (i != j)) := fun m u v s Q E F N ⟨_, hu⟩ ⟨_, hv⟩ k => by subst hu hv; exact PyProof.Rows.ne_int (k _ s.toks rfl)
theorem Bn.nebool {i j : Bool} : Bn c (compareOp .NotEq) (.bool i) (.bool j) (.bool (i != j)) := fun m u v s Q E F N hu hv k => by cases hu; cases hv; exact PyProof.Rows.ne_bool (k _ s.toks rfl)
theorem Bn.eqbyt {x y : List UInt8} : Bn c (compareOp .Eq) (.byt x) (.byt y) (.bool (x == y)) := fun m u v s Q E F N ⟨_, hu⟩ ⟨_, hv⟩ k => by subst hu hv; exact PySem.W.eq_bytes (k _ s.toks rfl)
theorem Bn.nebyt {x y : List UInt8} : Bn c (compareOp .NotEq) (.byt x) (.byt y) (.bool (x != y)) := fun m u v s Q E F N ⟨_, hu⟩ ⟨_, hv⟩ k => by subst hu hv; exact PySem.W.ne_bytes (k _ s.toks rfl)
end
-- what isinstance says of a datum
noncomputable def isiB (d : D) : Value → Bool
  | .type "int" => match d with | .num _ => true | .bool _ => true | _ => false
  | .type "bool" => match d with | .bool _ => true | _ => false
  | .type "bytes" => match d with | .text _ => true | _ => false
  | .ref 89 => match d with | .light _ => true | _ => false
  | .ref 68 => match d with | .heap _ => true | _ => false
  | _ => false
theorem isi_int {S : Fs} {c : Act} {n : Nat} (ok : Ok S c n) {d : D} {v : Value} (hv : VRel c.news v d) (m : Str → Option Value) (s : Shared) (Q E : Value → Shared → Prop) (F : Fr c.h₀ c.L s.heap m) (N : News c.h₀ c.L s.heap c.news)
    (k : ∀ tk', Q (.bool (isiB d (.type "int"))) { s with toks := tk' }) : wpAny (model PySem.Challenge.rw_nt0637_01.row.prog c.w) c.A (call (.builtin "isinstance") [v, .type "int"]) Q E s := by
  have X : (Mine.KF c.w.params).In c.h₀ := ok.X
  have T := ok.T
  revert X
  k_fill
  intro X
  cases d with
  | nil => cases hv; (walk1; (first | exact k _ | exact k s.toks))
  | bool b => cases hv; (walk1; (first | exact k _ | exact k s.toks))
  | num i => obtain ⟨t, rfl⟩ := hv; (walk1; (first | exact k _ | exact k s.toks))
  | text x => obtain ⟨t, rfl⟩ := hv; (walk1; (first | exact k _ | exact k s.toks))
  | light i => obtain ⟨a, dx, x, k', t, t1, rfl, h1, h2⟩ := hv; (walk1; (first | exact k _ | exact k s.toks))
  | heap i => obtain ⟨a, dx, n2, n3, x, x2, x3, k', t, t1, t2, t3, t4, t5, rfl, h1, h2⟩ := hv; (walk1; (first | exact k _ | exact k s.toks))
theorem isi_bool {S : Fs} {c : Act} {n : Nat} (ok : Ok S c n) {d : D} {v : Value} (hv : VRel c.news v d) (m : Str → Option Value) (s : Shared) (Q E : Value → Shared → Prop) (F : Fr c.h₀ c.L s.heap m) (N : News c.h₀ c.L s.heap c.news)
    (k : ∀ tk', Q (.bool (isiB d (.type "bool"))) { s with toks := tk' }) : wpAny (model PySem.Challenge.rw_nt0637_01.row.prog c.w) c.A (call (.builtin "isinstance") [v, .type "bool"]) Q E s := by
  have X : (Mine.KF c.w.params).In c.h₀ := ok.X
  have T := ok.T
  revert X
  k_fill
  intro X
  cases d with
  | nil => cases hv; (walk1; (first | exact k _ | exact k s.toks))
  | bool b => cases hv; (walk1; (first | exact k _ | exact k s.toks))
  | num i => obtain ⟨t, rfl⟩ := hv; (walk1; (first | exact k _ | exact k s.toks))
  | text x => obtain ⟨t, rfl⟩ := hv; (walk1; (first | exact k _ | exact k s.toks))
  | light i => obtain ⟨a, dx, x, k', t, t1, rfl, h1, h2⟩ := hv; (walk1; (first | exact k _ | exact k s.toks))
  | heap i => obtain ⟨a, dx, n2, n3, x, x2, x3, k', t, t1, t2, t3, t4, t5, rfl, h1, h2⟩ := hv; (walk1; (first | exact k _ | exact k s.toks))
theorem isi_bytes {S : Fs} {c : Act} {n : Nat} (ok : Ok S c n) {d : D} {v : Value} (hv : VRel c.news v d) (m : Str → Option Value) (s : Shared) (Q E : Value → Shared → Prop) (F : Fr c.h₀ c.L s.heap m) (N : News c.h₀ c.L s.heap c.news)
    (k : ∀ tk', Q (.bool (isiB d (.type "bytes"))) { s with toks := tk' }) : wpAny (model PySem.Challenge.rw_nt0637_01.row.prog c.w) c.A (call (.builtin "isinstance") [v, .type "bytes"]) Q E s := by
  have X : (Mine.KF c.w.params).In c.h₀ := ok.X
  have T := ok.T
  revert X
  k_fill
  intro X
  cases d with
  | nil => cases hv; (walk1; (first | exact k _ | exact k s.toks))
  | bool b => cases hv; (walk1; (first | exact k _ | exact k s.toks))
  | num i => obtain ⟨t, rfl⟩ := hv; (walk1; (first | exact k _ | exact k s.toks))
  | text x => obtain ⟨t, rfl⟩ := hv; (walk1; (first | exact k _ | exact k s.toks))
  | light i => obtain ⟨a, dx, x, k', t, t1, rfl, h1, h2⟩ := hv; (walk1; (first | exact k _ | exact k s.toks))
  | heap i => obtain ⟨a, dx, n2, n3, x, x2, x3, k', t, t1, t2, t3, t4, t5, rfl, h1, h2⟩ := hv; (walk1; (first | exact k _ | exact k s.toks))
theorem isi_light {S : Fs} {c : Act} {n : Nat} (ok : Ok S c n) {d : D} {v : Value} (hv : VRel c.news v d) (m : Str → Option Value) (s : Shared) (Q E : Value → Shared → Prop) (F : Fr c.h₀ c.L s.heap m) (N : News c.h₀ c.L s.heap c.news)
    (k : ∀ tk', Q (.bool (isiB d (.ref 89))) { s with toks := tk' }) : wpAny (model PySem.Challenge.rw_nt0637_01.row.prog c.w) c.A (call (.builtin "isinstance") [v, .ref 89]) Q E s := by
  have X : (Mine.KF c.w.params).In c.h₀ := ok.X
  have T := ok.T
  revert X
  k_fill
  intro X
  cases d with
  | nil => cases hv; (walk1; (first | exact k _ | exact k s.toks))
  | bool b => cases hv; (walk1; (first | exact k _ | exact k s.toks))
  | num i => obtain ⟨t, rfl⟩ := hv; (walk1; (first | exact k _ | exact k s.toks))
  | text x => obtain ⟨t, rfl⟩ := hv; (walk1; (first | exact k _ | exact k s.toks))
  | light i => obtain ⟨a, dx, x, k', t, t1, rfl, h1, h2⟩ := hv; (walk1; (first | exact k _ | exact k s.toks))
  | heap i => obtain ⟨a, dx, n2, n3, x, x2, x3, k', t, t1, t2, t3, t4, t5, rfl, h1, h2⟩ := hv; (walk1; (first | exact k _ | exact k s.toks))
theorem isi_heap {S : Fs} {c : Act} {n : Nat} (ok : Ok S c n) {d : D} {v : Value} (hv : VRel c.news v d) (m : Str → Option Value) (s : Shared) (Q E : Value → Shared → Prop) (F : Fr c.h₀ c.L s.heap m) (N : News c.h₀ c.L s.heap c.news)
    (k : ∀ tk', Q (.bool (isiB d (.ref 68))) { s with toks := tk' }) : wpAny (model PySem.Challenge.rw_nt0637_01.row.prog c.w) c.A (call (.builtin "isinstance") [v, .ref 68]) Q E s := by
  have X : (Mine.KF c.w.params).In c.h₀ := ok.X
  have T := ok.T
  revert X
  k_fill
  intro X
  cases d with
  | nil => cases hv; (walk1; (first | exact k _ | exact k s.toks))
  | bool b => cases hv; (walk1; (first | exact k _ | exact k s.toks))
  | num i => obtain ⟨t, rfl⟩ := hv; (walk1; (first | exact k _ | exact k s.toks))
  | text x => obtain ⟨t, rfl⟩ := hv; (walk1; (first | exact k _ | exact k s.toks))
  | light i => obtain ⟨a, dx, x, k', t, t1, rfl, h1, h2⟩ := hv; (walk1; (first | exact k _ | exact k s.toks))
  | heap i => obtain ⟨a, dx, n2, n3, x, x2, x3, k', t, t1, t2, t3, t4, t5, rfl, h1, h2⟩ := hv; (walk1; (first | exact k _ | exact k s.toks))
section
variable {S : Fs} {c : Act} {Γ : Gam} {n : Nat} {pos xp : Pos} {a b e : PySem.Expr} {r : Rv}
theorem g_isinstance (P : Params) : nsIn (Mine.KF P) mainGlobals (Str.ofString "isinstance") = some none := by k_is
theorem g_int (P : Params) : nsIn (Mine.KF P) mainGlobals (Str.ofString "int") = some none := by k_is
theorem g_bool (P : Params) : nsIn (Mine.KF P) mainGlobals (Str.ofString "bool") = some none := by k_is
theorem g_bytes (P : Params) : nsIn (Mine.KF P) mainGlobals (Str.ofString "bytes") = some none := by k_is
theorem b_isinstance : bootBuiltins (Str.ofString "isinstance") = some (.builtin "isinstance") := by boot_fast
theorem b_int : bootBuiltins (Str.ofString "int") = some (.type "int") := by boot_fast
theorem b_bool : bootBuiltins (Str.ofString "bool") = some (.type "bool") := by boot_fast
theorem b_bytes : bootBuiltins (Str.ofString "bytes") = some (.type "bytes") := by boot_fast
theorem Ev.n_int (ok : Ok S c n) (hb : okN S (Str.ofString "int") .globalImplicit = true) : Ev (S.env c) c Γ (.Name (Str.ofString "int") pos) (.ex (.type "int")) := Ev.blt ok hb (g_int _) b_int (by decide)
theorem Ev.n_bool (ok : Ok S c n) (hb : okN S (Str.ofString "bool") .globalImplicit = true) : Ev (S.env c) c Γ (.Name (Str.ofString "bool") pos) (.ex (.type "bool")) := Ev.blt ok hb (g_bool _) b_bool (by decide)
theorem Ev.n_bytes (ok : Ok S c n) (hb : okN S (Str.ofString "bytes") .globalImplicit = true) : Ev (S.env c) c Γ (.Name (Str.ofString "bytes") pos) (.ex (.type "bytes")) := Ev.blt ok hb (g_bytes _) b_bytes (by decide)
theorem g_light (P : Params) : nsIn (Mine.KF P) mainGlobals (Str.ofString "LightValue") = some (some (.ref 89)) := by k_is
theorem g_heap (P : Params) : nsIn (Mine.KF P) mainGlobals (Str.ofString "HeapObject") = some (some (.ref 68)) := by k_is
theorem Ev.n_light (ok : Ok S c n) (hb : okN S (Str.ofString "LightValue") .globalImplicit = true) : Ev (S.env c) c Γ (.Name (Str.ofString "LightValue") pos) (.ex (.ref 89)) := Ev.glob ok hb (g_light _)
theorem Ev.n_heap (ok : Ok S c n) (hb : okN S (Str.ofString "HeapObject") .globalImplicit = true) : Ev (S.env c) c Γ (.Name (Str.ofString "HeapObject") pos) (.ex (.ref 68)) := Ev.glob ok hb (g_heap _)
inductive IsT : Value → Prop where
  | int : IsT (.type "int")
  | bool : IsT (.type "bool")
  | bytes : IsT (.type "bytes")
  | light : IsT (.ref 89)
  | heap : IsT (.ref 68)
theorem Ev.isi {d : D} {T : Value} (ok : Ok S c n) (hb : okN S (Str.ofString "isinstance") .globalImplicit = true) (h : EvL (S.env c) c Γ [a, b] [.dat d, .ex T]) (hT : IsT T) : Ev (S.env c) c Γ (.Call (.Name (Str.ofString "isinstance") xp) [a, b] [] pos) (.bool (isiB d T)) :=
  Ev.bcall ok hb (g_isinstance _) b_isinstance (by decide) h fun vs m s Q E hvs F N k => by
    cases hvs with
    | cons h1 h2 =>
      cases h2 with
      | cons h3 h4 =>
        cases h4
        cases h3
        cases hT with
        | int => exact isi_int ok h1 m s Q E F N fun tk => k _ tk rfl
        | bool => exact isi_bool ok h1 m s Q E F N fun tk => k _ tk rfl
        | bytes => exact isi_bytes ok h1 m s Q E F N fun tk => k _ tk rfl
        | light => exact isi_light ok h1 m s Q E F N fun tk => k _ tk rfl
        | heap => exact isi_heap ok h1 m s Q E F N fun tk => k _ tk rfl
end
noncomputable def D.isNil : D → Bool
  | .nil => true
  | _ => false
theorem Bn.isnil {c : Act} {d : D} : Bn c (compareOp .Is) (.dat d) (.ex .none) (.bool d.isNil) := fun m u v s Q E F N hu hv k => by
  cases hv
  cases d with
  | nil => cases hu; exact is_none_none (k _ s.toks rfl)
  | bool b => cases hu; exact is_bool_none (k _ s.toks rfl)
  | num n => obtain ⟨t, rfl⟩ := hu; exact is_int_none (k _ s.toks rfl)
  | text x => obtain ⟨t, rfl⟩ := hu; exact is_bytes_none (k _ s.toks rfl)
  | light _ => obtain ⟨_, _, _, _, _, _, rfl, _⟩ := hu; exact is_ref_none (k _ s.toks rfl)
  | heap _ => obtain ⟨_, _, _, _, _, _, _, _, _, _, _, _, _, _, rfl, _⟩ := hu; exact is_ref_none (k _ s.toks rfl)
noncomputable def D.isNum : D → Bool
  | .num _ => true
  | _ => false
theorem is_number_r {d : D} : GivesR 1 100 [.dat d] (.bool d.isNum) := by
  refine givesR_fn (lev := 0) (xs := [Str.ofString "value"]) (fun P => by exact rfl) (fun P => by k_is) (fun _ s => BindsTo.of_eq rfl) (by decide) rfl rfl rfl (by decide) ?_
  intro c ok
  have e : d.isNum = (isiB d (.type "int") && !isiB d (.type "bool")) := by cases d <;> rfl
  rw [e]
  refine Ex.ret (Ev.and2 (Ev.isi ok rfl (.cons (Ev.loc ok rfl) (.cons (Ev.n_int ok rfl) .nil)) .int) fun _ => Ev.not (Ev.isi ok rfl (.cons (Ev.loc ok rfl) (.cons (Ev.n_bool ok rfl) .nil)) .bool))
theorem g_T_NIL (P : Params) : nsIn (Mine.KF P) mainGlobals (Str.ofString "T_NIL") = some (some (.int 0 192)) := by k_is
theorem g_T_NONE (P : Params) : nsIn (Mine.KF P) mainGlobals (Str.ofString "T_NONE") = some (some (.int (-1) 190)) := by k_is
theorem g_T_BOOLEAN (P : Params) : nsIn (Mine.KF P) mainGlobals (Str.ofString "T_BOOLEAN") = some (some (.int 1 194)) := by k_is
theorem g_T_LIGHT (P : Params) : nsIn (Mine.KF P) mainGlobals (Str.ofString "T_LIGHT") = some (some (.int 2 196)) := by k_is
theorem g_T_NUMBER (P : Params) : nsIn (Mine.KF P) mainGlobals (Str.ofString "T_NUMBER") = some (some (.int 3 198)) := by k_is
theorem g_T_STRING (P : Params) : nsIn (Mine.KF P) mainGlobals (Str.ofString "T_STRING") = some (some (.int 4 200)) := by k_is
noncomputable def D.tag : D → Int
  | .nil => 0
  | .bool _ => 1
  | .num _ => 3
  | .text _ => 4
  | .light _ => 2
  | .heap _ => -1
noncomputable def D.isHeap : D → Bool
  | .heap _ => true
  | _ => false
noncomputable def D.isFalse : D → Bool
  | .nil => true
  | .bool b => !b
  | _ => false
section
variable {S : Fs} {c : Act} {Γ : Gam} {n : Nat} {pos xp : Pos} {a b e : PySem.Expr} {r : Rv} {d : D}
theorem tag0 (h : d.isNil = true) : 0 = d.tag := by cases d <;> first | rfl | exact ft h | exact ff h
theorem tag1 (h : isiB d (.type "bool") = true) : 1 = d.tag := by cases d <;> first | rfl | exact ft h | exact ff h
theorem tag3 (h0 : isiB d (.type "bool") = false) (h : isiB d (.type "int") = true) : 3 = d.tag := by cases d <;> first | rfl | exact ft h | exact ff h | exact ft h0 | exact ff h0
theorem tag4 (h : isiB d (.type "bytes") = true) : 4 = d.tag := by cases d <;> first | rfl | exact ft h | exact ff h
theorem tag2 (h : isiB d (.ref 89) = true) : 2 = d.tag := by cases d <;> first | rfl | exact ft h | exact ff h
theorem tag9 (h : isiB d (.ref 68) = true) : -1 = d.tag := by cases d <;> first | rfl | exact ft h | exact ff h
theorem tag8 (h0 : d.isNil = false) (h1 : isiB d (.type "int") = false) (h2 : isiB d (.type "bytes") = false) (h3 : isiB d (.ref 89) = false) : -1 = d.tag := by cases d <;> first | rfl | exact ft h0 | exact ff h0 | exact ft h1 | exact ff h1 | exact ft h2 | exact ff h2 | exact ft h3 | exact ff h3
theorem Un.kind (ok : Ok S c n) (h : isiB d (.ref 68) = true) : Un c (fun o => getAttr o (Str.ofString "kind") true) (.dat d) (.int (-1)) := fun m u s Q E F N hu k => by
  have X : (Mine.KF c.w.params).In c.h₀ := ok.X
  cases d with
  | nil => exact ft h
  | bool b => exact ft h
  | num n => exact ft h
  | text x => exact ft h
  | light _ => exact ft h
  | heap _ =>
    obtain ⟨_, _, _, _, _, _, _, _, _, _, _, _, _, _, rfl, h1, h2⟩ := hu
    exact get_cls F X (InstAt.of_news N h1 h2) (by k_is) (by k_is) (by k_is) (by k_is) (by k_handed) (by decide +kernel) (by k_get) (k _ _ ⟨_, rfl⟩)
theorem type_of_r : GivesR 1 107 [.dat d] (.int d.tag) := by
  refine givesR_fn (lev := 0) (xs := [Str.ofString "value"]) (fun P => by exact rfl) (fun P => by k_is) (fun _ s => BindsTo.of_eq rfl) (by decide) rfl rfl rfl (by decide) ?_
  intro c ok
  refine Ex.ifr (Tv.cmp (Ev.loc ok rfl) Ev.cnone Bn.isnil) (fun h => Ex.ret (Ev.int_of (tag0 h) (Ev.gint ok rfl (g_T_NIL _)))) (fun h0 => ?_) fun _ _ => ret_next
  refine Ex.ifr (Tv.plain (Ev.isi ok rfl (.cons (Ev.loc ok rfl) (.cons (Ev.n_bool ok rfl) .nil)) .bool)) (fun h => Ex.ret (Ev.int_of (tag1 h) (Ev.gint ok rfl (g_T_BOOLEAN _)))) (fun h1 => ?_) fun _ _ => ret_next
  refine Ex.ifr (Tv.plain (Ev.isi ok rfl (.cons (Ev.loc ok rfl) (.cons (Ev.n_int ok rfl) .nil)) .int)) (fun h => Ex.ret (Ev.int_of (tag3 h1 h) (Ev.gint ok rfl (g_T_NUMBER _)))) (fun h2 => ?_) fun _ _ => ret_next
  refine Ex.ifr (Tv.plain (Ev.isi ok rfl (.cons (Ev.loc ok rfl) (.cons (Ev.n_bytes ok rfl) .nil)) .bytes)) (fun h => Ex.ret (Ev.int_of (tag4 h) (Ev.gint ok rfl (g_T_STRING _)))) (fun h3 => ?_) fun _ _ => ret_next
  refine Ex.ifr (Tv.plain (Ev.isi ok rfl (.cons (Ev.loc ok rfl) (.cons (Ev.n_light ok rfl) .nil)) .light)) (fun h => Ex.ret (Ev.int_of (tag2 h) (Ev.gint ok rfl (g_T_LIGHT _)))) (fun h4 => ?_) fun _ _ => ret_next
  refine Ex.ifr (Tv.plain (Ev.isi ok rfl (.cons (Ev.loc ok rfl) (.cons (Ev.n_heap ok rfl) .nil)) .heap)) (fun h => Ex.ret (Ev.int_of (tag9 h) (Ev.attr (Ev.loc ok rfl) (Un.kind ok h)))) (fun h5 => ?_) fun _ _ => ret_next
  exact Ex.ret (Ev.int_of (tag8 h0 h2 h3 h4) (Ev.gint ok rfl (g_T_NONE _)))
theorem is_collectable_r : GivesR 1 128 [.dat d] (.bool d.isHeap) := by
  refine givesR_fn (lev := 0) (xs := [Str.ofString "value"]) (fun P => by exact rfl) (fun P => by k_is) (fun _ s => BindsTo.of_eq rfl) (by decide) rfl rfl rfl (by decide) ?_
  intro c ok
  exact Ex.ret (Ev.bool_of (by cases d <;> rfl) (Ev.isi ok rfl (.cons (Ev.loc ok rfl) (.cons (Ev.n_heap ok rfl) .nil)) .heap))
end
noncomputable def tagName (k : Int) : List UInt8 :=
  if k = 0 then [110, 105, 108] else if k = 1 then [98, 111, 111, 108, 101, 97, 110] else if k = 2 then [117, 115, 101, 114, 100, 97, 116, 97]
  else if k = 3 then [110, 117, 109, 98, 101, 114] else if k = 4 then [115, 116, 114, 105, 110, 103] else if k = 5 then [116, 97, 98, 108, 101]
  else if k = 6 then [102, 117, 110, 99, 116, 105, 111, 110] else if k = 7 then [117, 115, 101, 114, 100, 97, 116, 97] else if k = 8 then [116, 104, 114, 101, 97, 100]
  else [110, 111, 32, 118, 97, 108, 117, 101]
-- the wrapping to w bits
noncomputable def wrapZ (n : Int) (w : Int) : Int :=
  if 2 ^ (w - 1).toNat ≤ n.fmod (2 ^ w.toNat) then n.fmod (2 ^ w.toNat) - 2 ^ w.toNat else n.fmod (2 ^ w.toNat)
noncomputable def D.tb : D → Bool
  | .bool b => b
  | _ => false
noncomputable def D.numOf : D → Int
  | .light n => n
  | .heap n => n
  | _ => 0
section
variable {S : Fs} {c : Act} {Γ : Gam} {n : Nat} {pos xp : Pos} {a b e : PySem.Expr} {r : Rv} {d d' : D} {k : Nat}
theorem g_TYPE_NAMES (P : Params) : nsIn (Mine.KF P) mainGlobals (Str.ofString "TYPE_NAMES") = some (some (.ref 15)) := by k_is
theorem Ev.byt_of {x y : List UInt8} (q : x = y) (h : Ev (S.env c) c Γ e (.byt x)) : Ev (S.env c) c Γ e (.byt y) := q ▸ h
noncomputable def Plain (b : PySem.Expr) : Prop := ∀ o i, subscripted b false o i = operate [o, i] (getItem o i)
theorem Bn.names {i : Int} (ok : Ok S c n) (h0 : 0 ≤ i) (h8 : i ≤ 8) (hs : Plain b) : Bn c (subscriptTail a b) (.ex (.ref 15)) (.int i) (.byt (tagName i)) := fun m u v s Q E F N hu ⟨t, hv⟩ k => by
  cases hu
  subst hv
  refine' topList_K (v := .bytes (tagName i).toArray (202 + i.toNat)) F ok.X ?h1 h0 (by (first | lia | omega)) ?h2 (k _ s.toks ⟨_, rfl⟩) (hs _ _)
  case h1 => exact rfl
  case h2 =>
    have hc : i = 0 ∨ i = 1 ∨ i = 2 ∨ i = 3 ∨ i = 4 ∨ i = 5 ∨ i = 6 ∨ i = 7 ∨ i = 8 := by (first | lia | omega)
    rcases hc with h | h | h | h | h | h | h | h | h <;> (subst h; rfl)
theorem name_m1 {k : Int} (h : (k == -1) = true) : [110, 111, 32, 118, 97, 108, 117, 101] = tagName k := by rw [beq_iff_eq.mp h]; rfl
theorem name_ge {k : Int} (h : (k == -1) = false) (h0 : -1 ≤ k) : 0 ≤ k := by have := beq_eq_false_iff_ne.mp h; (first | lia | omega)
theorem type_name_r {k : Int} (h0 : -1 ≤ k) (h8 : k ≤ 8) : GivesR 1 114 [.int k] (.byt (tagName k)) := by
  refine givesR_fn (lev := 0) (xs := [Str.ofString "tag"]) (fun P => by exact rfl) (fun P => by k_is) (fun _ s => BindsTo.of_eq rfl) (by decide) rfl rfl rfl (by decide) ?_
  intro c ok
  exact Ex.ifr (Tv.cmp (Ev.loc ok rfl) (Ev.gint ok rfl (g_T_NONE _)) Bn.eq) (fun h => Ex.ret (Ev.byt_of (name_m1 h) Ev.cbyt)) (fun h => Ex.ret (Ev.sub (Ev.glob ok rfl (g_TYPE_NAMES _)) (Ev.loc ok rfl) (Bn.names ok (name_ge h h0) h8 fun _ _ => rfl))) fun _ _ => ret_next
theorem Ev.tb (h : isiB d (.type "bool") = true) (h1 : Ev (S.env c) c Γ e (.dat d)) : Ev (S.env c) c Γ e (.bool d.tb) := fun m s Q E G F N k => h1 m s _ _ G F N fun v h' tk' F1 N1 hv => k v h' tk' F1 N1 (by
  cases d with
  | bool b => exact hv
  | nil => exact ft h
  | num n => exact ft h
  | text x => exact ft h
  | light _ => exact ft h
  | heap _ => exact ft h)
theorem is_false_r : GivesR 1 121 [.dat d] (.bool d.isFalse) := by
  refine givesR_fn (lev := 0) (xs := [Str.ofString "value"]) (fun P => by exact rfl) (fun P => by k_is) (fun _ s => BindsTo.of_eq rfl) (by decide) rfl rfl rfl (by decide) ?_
  intro c ok
  refine Ex.ifr (Tv.cmp (Ev.loc ok rfl) Ev.cnone Bn.isnil) (fun h => Ex.ret (Ev.bool_of (by cases d <;> first | rfl | exact ft h | exact ff h) Ev.cbool)) (fun h0 => ?_) fun _ _ => ret_next
  exact Ex.ret (Ev.bool_of (by cases d <;> first | rfl | exact ft h0 | exact ff h0) (Ev.and2 (Ev.isi ok rfl (.cons (Ev.loc ok rfl) (.cons (Ev.n_bool ok rfl) .nil)) .bool) fun h => Ev.not (Ev.tb h (Ev.loc ok rfl))))
theorem g_type_of (P : Params) : nsIn (Mine.KF P) mainGlobals (Str.ofString "type_of") = some (some (.ref 107)) := by k_is
theorem k_type_of (P : Params) : keepIn (Mine.KF P) (.ref 107) = true := by k_is
theorem Ev.type_of (ok : Ok S c n) (hb : okN S (Str.ofString "type_of") .globalImplicit = true) (hn : 1 ≤ n) (h : Ev (S.env c) c Γ e (.dat d)) (hs : ∀ env, starEach [e] env = (false, eval e env) :: starEach [] env := by intro _; rfl) : Ev (S.env c) c Γ (.Call (.Name (Str.ofString "type_of") xp) [e] [] pos) (.int d.tag) :=
  Ev.call ok hb (g_type_of _) (k_type_of _) type_of_r hn (.cons h .nil hs)
theorem ints_of : ∀ {is : List Int} {vs : List Value}, AllOk c (is.map .int) vs → IntsAre vs is
  | [], _, .nil => .nil
  | i :: is, _, .cons ⟨t, e⟩ h => e ▸ .cons _ _ (ints_of h)
-- x in (a tuple that is made for this)
theorem in_made {es : List PySem.Expr} {is : List Int} {i : Int} {t : Tok} {tp : Pos} (h2 : EvL (S.env c) c Γ es (is.map .int)) (hz : is.length ≤ 9) (m : Str → Option Value) (s : Shared) (Q E : Value → Shared → Prop) (G : GOk c Γ m) (F : Fr c.h₀ c.L s.heap m) (N : News c.h₀ c.L s.heap c.news)
    (h : ∀ h' tk', Fr c.h₀ c.L h' m → News c.h₀ c.L h' c.news → Q (.bool (is.any fun x => x == i)) { s with heap := h', toks := tk' }) :
    wpAny (model PR c.w) c.A (eval (.Tuple es k tp) (S.env c)) (fun v s' => wpAny (model PR c.w) c.A (compareOp .In (.int i t) v) Q E s') E s :=
  Tuple_ (h2.args m _ _ _ G F N fun vs _ _ F2 N2 hvs => by
    have hI := ints_of hvs
    refine kup_newTuple F2 N2 (fun D h' F3 N3 l3 => ?_) (by rw [hI.length, sizeLine_eq]; (first | lia | omega))
    exact in_tuple_ints (items := vs.toArray) ⟨_, (N3 _ (.head _)).1, rfl, 0, rfl⟩ (by simpa using hI) (h _ _ F3 (fun p hp => N3 p (.tail _ hp))))
theorem Ev.inTuple {es : List PySem.Expr} {is : List Int} {i : Int} {tp : Pos} (h1 : Ev (S.env c) c Γ a (.int i)) (h2 : EvL (S.env c) c Γ es (is.map .int)) (hz : is.length ≤ 9) (hm : behindInMarks .In (.Tuple es k tp) = false := by rfl) : Ev (S.env c) c Γ (.Compare a [.In] [.Tuple es k tp] pos) (.bool (is.any fun x => x == i)) := fun m s Q E G F N h =>
  wpAny_Compare1 (h1 m s _ _ G F N fun u _ _ F1 N1 ⟨t, hu⟩ => hu ▸ in_made h2 hz m _ _ _ G F1 N1 fun h' tk' F2 N2 => h _ h' tk' F2 N2 rfl) hm
theorem Tv.inTuple {es : List PySem.Expr} {is : List Int} {i : Int} {tp : Pos} (h1 : Ev (S.env c) c Γ a (.int i)) (h2 : EvL (S.env c) c Γ es (is.map .int)) (hz : is.length ≤ 9) (hm : behindInMarks .In (.Tuple es k tp) = false := by rfl) : Tv (S.env c) c Γ (.Compare a [.In] [.Tuple es k tp] pos) (is.any fun x => x == i) := fun m s wh Q E hw G F N h =>
  wpAny_isTrue_Compare1 (h1 m s _ _ G F N fun u _ _ F1 N1 ⟨t, hu⟩ => hu ▸ in_made h2 hz m _ _ _ G F1 N1 fun h' tk' F2 N2 => wpAny_truthy_bool (h h' tk' F2 N2)) hm
end
noncomputable def D.isObj : D → Bool
  | .light _ => true
  | .heap _ => true
  | _ => false
section
variable {S : Fs} {c : Act} {Γ : Gam} {n : Nat} {pos xp : Pos} {a b e : PySem.Expr} {r : Rv} {d d' : D} {k : Nat}
theorem Un.number (ok : Ok S c n) (h : d.isObj = true) : Un c (fun o => getAttr o (Str.ofString "number") true) (.dat d) (.int d.numOf) := fun m u s Q E F N hu k => by
  have X : (Mine.KF c.w.params).In c.h₀ := ok.X
  cases d with
  | nil => exact ft h
  | bool b => exact ft h
  | num n => exact ft h
  | text x => exact ft h
  | light _ =>
    obtain ⟨_, _, _, _, _, _, rfl, h1, h2⟩ := hu
    exact get_own F X (InstAt.of_news N h1 h2) (by k_is) (by k_is) (by k_is) (by k_is) (by k_get) (by k_handed) (k _ _ ⟨_, rfl⟩)
  | heap _ =>
    obtain ⟨_, _, _, _, _, _, _, _, _, _, _, _, _, _, rfl, h1, h2⟩ := hu
    exact get_own F X (InstAt.of_news N h1 h2) (by k_is) (by k_is) (by k_is) (by k_is) (by k_get) (by k_handed) (k _ _ ⟨_, rfl⟩)
theorem tag_eq (h : (d.tag != d'.tag) = false) : d'.tag = d.tag := by simpa using (beq_iff_eq.mp (by simpa using h : (d.tag == d'.tag) = true)).symm
theorem absI {i j : Int} {p : Prop} (h : i = j) (hd : decide (i = j) = false) : p := absurd h (of_decide_eq_false hd)
theorem tag0_inv (h : d.tag = 0) : d = .nil := by cases d <;> first | rfl | exact absI h rfl
theorem tag1_inv (h : d.tag = 1) : ∃ b, d = .bool b := by cases d <;> first | exact ⟨_, rfl⟩ | exact absI h rfl
theorem tag3_inv (h : d.tag = 3) : ∃ b, d = .num b := by cases d <;> first | exact ⟨_, rfl⟩ | exact absI h rfl
theorem tag4_inv (h : d.tag = 4) : ∃ b, d = .text b := by cases d <;> first | exact ⟨_, rfl⟩ | exact absI h rfl
theorem tag2_inv (h : d.tag = 2) : ∃ b, d = .light b := by cases d <;> first | exact ⟨_, rfl⟩ | exact absI h rfl
theorem tagm_inv (h : d.tag = -1) : ∃ b, d = .heap b := by cases d <;> first | exact ⟨_, rfl⟩ | exact absI h rfl
theorem dec_of {p q : Prop} [Decidable p] [Decidable q] (h : p ↔ q) : decide p = decide q := Bool.eq_iff_iff.mpr (by rw [decide_eq_true_iff, decide_eq_true_iff]; exact h)
theorem beq_dec (x y : List UInt8) : (x == y) = decide (x = y) := Bool.eq_iff_iff.mpr (by rw [beq_iff_eq, decide_eq_true_iff])
theorem Bn.eqdat (h : (d.tag != d'.tag) = false) (h3 : ([1, 3, 4].any fun x => x == d.tag) = true) : Bn c (compareOp .Eq) (.dat d) (.dat d') (.bool (decide (d = d'))) := fun m u v s Q E F N hu hv k => by
  have h := tag_eq h
  cases d with
  | nil => exact ft h3
  | light n => exact ft h3
  | heap n => exact ft h3
  | bool b =>
    obtain ⟨b', rfl⟩ := tag1_inv h
    obtain rfl : u = .bool b := hu
    obtain rfl : v = .bool b' := hv
    exact PyProof.Rows.eq_bool (k _ s.toks (congrArg Value.bool (dec_of ⟨fun e => congrArg D.bool e, D.bool.inj⟩)))
  | num b =>
    obtain ⟨b', rfl⟩ := tag3_inv h
    obtain ⟨t, rfl⟩ := hu
    obtain ⟨t', rfl⟩ := hv
    exact PyProof.Rows.eq_int (k _ s.toks (congrArg Value.bool (dec_of ⟨fun e => congrArg D.num e, D.num.inj⟩)))
  | text b =>
    obtain ⟨b', rfl⟩ := tag4_inv h
    obtain ⟨t, rfl⟩ := hu
    obtain ⟨t', rfl⟩ := hv
    exact PySem.W.eq_bytes (k _ s.toks (congrArg Value.bool ((beq_dec b b').trans (dec_of ⟨fun e => congrArg D.text e, D.text.inj⟩))))
theorem re_off (h : (d.tag != d'.tag) = true) : false = decide (d = d') := by
  refine (decide_eq_false fun e => ?_).symm
  subst e
  simp at h
theorem re_nil (h : (d.tag != d'.tag) = false) (h2 : (d.tag == 0) = true) : true = decide (d = d') := by
  rw [tag0_inv (beq_iff_eq.mp h2), tag0_inv ((tag_eq h).trans (beq_iff_eq.mp h2))]; rfl
theorem re_obj (h : (d.tag != d'.tag) = false) (h2 : (d.tag == 0) = false) (h3 : ([1, 3, 4].any fun x => x == d.tag) = false) : d.isObj = true ∧ d'.isObj = true ∧ (d.numOf == d'.numOf) = decide (d = d') := by
  have h := tag_eq h
  cases d with
  | nil => exact ff h2
  | bool b => exact ff h3
  | num b => exact ff h3
  | text b => exact ff h3
  | light n =>
    obtain ⟨n', rfl⟩ := tag2_inv h
    exact ⟨rfl, rfl, dec_of ⟨fun e => congrArg D.light e, D.light.inj⟩⟩
  | heap n =>
    obtain ⟨n', rfl⟩ := tagm_inv h
    exact ⟨rfl, rfl, dec_of ⟨fun e => congrArg D.heap e, D.heap.inj⟩⟩
theorem raw_equal_r : GivesR 2 135 [.dat d, .dat d'] (.bool (decide (d = d'))) := by
  refine givesR_fn (lev := 1) (xs := [Str.ofString "a", Str.ofString "b"]) (fun P => by exact rfl) (fun P => by k_is) (fun _ _ s => BindsTo.of_eq rfl) (by decide) rfl rfl rfl (by decide) ?_
  intro c ok
  refine Ex.seq (Es.assign ok rfl (Ev.type_of ok rfl (Nat.le_refl _) (Ev.loc ok rfl))) ?_
  refine Ex.ifr (Tv.cmp (Ev.loc ok rfl) (Ev.type_of ok rfl (Nat.le_refl _) (Ev.loc ok rfl)) Bn.ne) (fun h => Ex.ret (Ev.bool_of (re_off h) Ev.cbool)) (fun h => ?_) fun _ _ => ret_next
  refine Ex.ifr (Tv.cmp (Ev.loc ok rfl) (Ev.gint ok rfl (g_T_NIL _)) Bn.eq) (fun h2 => Ex.ret (Ev.bool_of (re_nil h h2) Ev.cbool)) (fun h2 => ?_) fun _ _ => ret_next
  refine Ex.ifr (Tv.inTuple (is := [1, 3, 4]) (Ev.loc ok rfl) (.cons (Ev.gint ok rfl (g_T_BOOLEAN _)) (.cons (Ev.gint ok rfl (g_T_NUMBER _)) (.cons (Ev.gint ok rfl (g_T_STRING _)) .nil))) (by decide)) (fun h3 => Ex.ret (Ev.cmp (Ev.loc ok rfl) (Ev.loc ok rfl) (Bn.eqdat h h3))) (fun h3 => ?_) fun _ _ => ret_next
  obtain ⟨h4, h5, h6⟩ := re_obj h h2 h3
  exact Ex.ret (Ev.bool_of h6 (Ev.cmp (Ev.attr (Ev.loc ok rfl) (Un.number ok h4)) (Ev.attr (Ev.loc ok rfl) (Un.number ok h5)) Bn.eq))
theorem bits_one : ((Builtin.Int.intBits 1 : Nat) : Int) = 1 := by decide
theorem shl1 {b : Int} (h1 : 0 ≤ b) (h2 : b ≤ 100) : ((Builtin.Int.intBits 1 : Nat) : Int) + b ≤ 2 ^ 27 := by rw [bits_one]; (first | lia | omega)
theorem wrap_mask (n b : Int) : Builtin.bitAnd n (1 * 2 ^ b.toNat - 1) = n.fmod (2 ^ b.toNat) := by rw [Int.one_mul]; exact kbt_maskF n _
theorem wrap_hi {n b : Int} (h : decide (Builtin.bitAnd n (1 * 2 ^ b.toNat - 1) ≥ 1 * 2 ^ (b - 1).toNat) = true) : Builtin.bitAnd n (1 * 2 ^ b.toNat - 1) - 1 * 2 ^ b.toNat = wrapZ n b := by
  have h := of_decide_eq_true h
  rw [wrap_mask, Int.one_mul] at h
  rw [wrap_mask, Int.one_mul, wrapZ, if_pos h]
theorem wrap_lo {n b : Int} (h : decide (Builtin.bitAnd n (1 * 2 ^ b.toNat - 1) ≥ 1 * 2 ^ (b - 1).toNat) = false) : Builtin.bitAnd n (1 * 2 ^ b.toNat - 1) = wrapZ n b := by
  have h := of_decide_eq_false h
  rw [wrap_mask, Int.one_mul] at h
  rw [wrap_mask, wrapZ, if_neg h]
theorem wrap_r {i b : Int} (h2 : 2 ≤ b) (h71 : b ≤ 71) : GivesR 1 142 [.int i, .int b] (.int (wrapZ i b)) := by
  refine givesR_fn (lev := 0) (xs := [Str.ofString "n", Str.ofString "width"]) (fun P => by exact rfl) (fun P => by k_is) (fun _ _ s => BindsTo.of_eq rfl) (by decide) rfl rfl rfl (by decide) ?_
  intro c ok
  have hs1 : ((Builtin.Int.intBits 1 : Nat) : Int) + b ≤ 2 ^ 27 := shl1 (by (first | lia | omega)) (by (first | lia | omega))
  have hs2 : ((Builtin.Int.intBits 1 : Nat) : Int) + (b - 1) ≤ 2 ^ 27 := shl1 (by (first | lia | omega)) (by (first | lia | omega))
  have h0 : 0 ≤ b := by (first | lia | omega)
  have h1 : 0 ≤ b - 1 := by (first | lia | omega)
  refine Ex.seq (Es.assign ok rfl (Ev.bin (Ev.loc ok rfl) (Ev.bin (Ev.bin Ev.cint (Ev.loc ok rfl) (Bn.shl h0 hs1)) Ev.cint Bn.sub) Bn.and)) ?_
  exact Ex.ifr (Tv.cmp (Ev.loc ok rfl) (Ev.bin Ev.cint (Ev.bin (Ev.loc ok rfl) Ev.cint Bn.sub) (Bn.shl h1 hs2)) Bn.ge) (fun h => Ex.ret (Ev.int_of (wrap_hi h) (Ev.bin (Ev.loc ok rfl) (Ev.bin Ev.cint (Ev.loc ok rfl) (Bn.shl h0 hs1)) Bn.sub)))
    (fun h => Ex.ret (Ev.int_of (wrap_lo h) (Ev.loc ok rfl))) fun _ _ => ret_next
end
noncomputable def digZ (o : Int) : Int := if 48 ≤ o ∧ o ≤ 57 then o - 48 else if 97 ≤ o ∧ o ≤ 122 then o - 87 else if 65 ≤ o ∧ o ≤ 90 then o - 55 else -1
noncomputable def oct (x : List UInt8) (k : Nat) : Int := ((x.getD k 0).toNat : Int)
noncomputable def inB (x : List UInt8) (i : Int) : Bool := x.contains i.toNat.toUInt8
noncomputable def blanks : List UInt8 := [32, 9, 10, 11, 12, 13]
theorem oct_lo (x : List UInt8) (k : Nat) : 0 ≤ oct x k := Int.natCast_nonneg _
theorem oct_hi (x : List UInt8) (k : Nat) : oct x k < 256 := by have := (x.getD k 0).toNat_lt; unfold oct; (first | lia | omega)
theorem gives_bytes_in {b : Array UInt8} {i : Int} {t u : Tok} (h0 : 0 ≤ i) (h1 : i < 256) : PySem.Gives (PySem.Builtin.«bytes.__contains__» ⟨[.bytes b t, .int i u], []⟩) (.val (.bool (b.contains i.toNat.toUInt8))) := by
  refine .of_wp fun M A E s Q hq => ?_
  show wpAny M A (Builtin.Bytes.containsIn "bytes.__contains__" (.bytes b t) (.int i u) >>= fun r => _) _ E s
  refine wpAny_bind ?_
  unfold Builtin.Bytes.containsIn
  refine wpAny_bind (wpAny_attempt (wpAny_of_eq (a := i) rfl ?_))
  refine wpAny_bind (wpAny_of_eq KBy.buffer_eq ?_)
  dsimp only
  have hc : (decide (i < 0) || decide (i ≥ 256)) = false := by simp; (first | lia | omega)
  rw [hc]
  simp only [Bool.false_eq_true, if_false]
  exact wpAny_pure (wpAny_pure ⟨_, rfl, hq⟩)
section
variable {S : Fs} {c : Act} {Γ : Gam} {n : Nat} {x : Str} {pos xp : Pos} {a b e : PySem.Expr} {r : Rv} {d d' : D} {k : Nat}
theorem Bn.inbyt {i : Int} {y : List UInt8} (h0 : 0 ≤ i) (h1 : i < 256) : Bn c (compareOp .In) (.int i) (.byt y) (.bool (inB y i)) := fun m u v s Q E F N ⟨_, hu⟩ ⟨_, hv⟩ k => by
  subst hu hv
  exact in_gives (typeIs_bytes s _ _) FB.slot_bytes_contains FB.entry_bytes_contains (FB.args_bytes_contains_2 _ _) (gives_bytes_in h0 h1) (k _ s.toks (by rw [List.contains_toArray]; rfl))
theorem Ev.gbyt {y : List UInt8} {t : Tok} (ok : Ok S c n) (hb : okN S x .globalImplicit = true) (h : nsIn (KK c) mainGlobals x = some (some (.bytes y.toArray t))) : Ev (S.env c) c Γ (.Name x pos) (.byt y) := fun m s Q E G F N k =>
  nameX_K F ok.X (topRead_of ok.T) h (k _ s.heap s.toks F N ⟨_, rfl⟩) ok.hk (okN_1 hb) (okN_2 hb)
theorem Bn.octet {y : List UInt8} {i : Int} (h0 : 0 ≤ i) (h1 : i < y.length) (hz : y.length ≤ 80) (hs : ∀ o i, subscripted b false o i = operate [o, i] (getItem o i)) (hl : ∀ o r, letTemporaryGo a o r = pure ()) : Bn c (subscriptTail a b) (.byt y) (.int i) (.int (oct y i.toNat)) := fun m u v s Q E F N ⟨_, hu⟩ ⟨_, hv⟩ k => by
  subst hu hv
  exact bytes_item_K (by (first | lia | omega)) h0 h1 rfl (k _ _ ⟨_, rfl⟩) (hs _ _) (hl _)
theorem g_len (P : Params) : nsIn (Mine.KF P) mainGlobals (Str.ofString "len") = some none := by k_is
theorem b_len : bootBuiltins (Str.ofString "len") = some (.builtin "len") := by boot_fast
theorem Ev.lenE {V : Env} {y : List UInt8} (hn : Ev V c Γ (.Name (Str.ofString "len") xp) (.ex (.builtin "len"))) (h : Ev V c Γ e (.byt y)) (hz : y.length ≤ 80) (hs : ∀ env, starEach [e] env = (false, eval e env) :: starEach [] env := by intro _; rfl) : Ev V c Γ (.Call (.Name (Str.ofString "len") xp) [e] [] pos) (.int y.length) :=
  Ev.bcallE hn (.cons h .nil hs) fun vs m s Q E hvs F N k => by
    cases hvs with
    | cons h1 h2 =>
      cases h2
      obtain ⟨_, rfl⟩ := h1
      exact len_bytes (by rw [List.size_toArray]; (first | lia | omega)) (k _ _ ⟨_, rfl⟩)
theorem Ev.len {y : List UInt8} (ok : Ok S c n) (hb : okN S (Str.ofString "len") .globalImplicit = true) (h : Ev (S.env c) c Γ e (.byt y)) (hz : y.length ≤ 80) (hs : ∀ env, starEach [e] env = (false, eval e env) :: starEach [] env := by intro _; rfl) : Ev (S.env c) c Γ (.Call (.Name (Str.ofString "len") xp) [e] [] pos) (.int y.length) := Ev.lenE (Ev.blt ok hb (g_len _) b_len (by decide)) h hz hs
theorem scr_at {m : Str → Option Value} {h : Heap} {l : Addr} {us : Array Value} (ok : Ok S c n) (F : Fr c.h₀ c.L h m) (h3 : c.base.IsList l us) : h.IsList l us := by
  obtain ⟨o, h1, h2⟩ := h3
  exact ⟨o, F.keep _ _ (ok.B.stays _ _ h1), h2⟩
theorem Ev.lenS {ns : List Int} (ok : Ok S c n) (hb : okN S (Str.ofString "len") .globalImplicit = true) (h : Ev (S.env c) c Γ e (.scr ns)) (hs : ∀ env, starEach [e] env = (false, eval e env) :: starEach [] env := by intro _; rfl) : Ev (S.env c) c Γ (.Call (.Name (Str.ofString "len") xp) [e] [] pos) (.int ns.length) :=
  Ev.bcall ok hb (g_len _) b_len (by decide) (.cons h .nil hs) fun vs m s Q E hvs F N k => by
    cases hvs with
    | cons h1 h2 =>
      cases h2
      obtain ⟨l, us, rfl, h3, h4, h5⟩ := h1
      exact len_ints_fit (scr_at ok F h3) h4 (by (first | lia | omega)) (k _ _ ⟨_, rfl⟩)
theorem Bn.itemS {ns : List Int} {i : Int} (ok : Ok S c n) (h0 : 0 ≤ i) (h1 : i < ns.length) (hs : ∀ o i, subscripted b false o i = operate [o, i] (getItem o i)) (hl : ∀ o r, letTemporaryGo a o r = pure ()) : Bn c (subscriptTail a b) (.scr ns) (.int i) (.int (ns.getD i.toNat 0)) := fun m u v s Q E F N hu ⟨_, hv⟩ k => by
  obtain ⟨l, us, rfl, h3, h4, h5⟩ := hu
  subst hv
  exact item_list_ints (scr_at ok F h3) h4 h0 h1 (by (first | lia | omega)) (fun t => k _ s.toks ⟨_, rfl⟩) (hs _ _) (hl _)
theorem g_BLANKS (P : Params) : nsIn (Mine.KF P) mainGlobals (Str.ofString "BLANKS") = some (some (.bytes #[32, 9, 10, 11, 12, 13] 212)) := by k_is
theorem is_blank_r {i : Int} (h0 : 0 ≤ i) (h1 : i < 256) : GivesR 1 149 [.int i] (.bool (inB blanks i)) := by
  refine givesR_fn (lev := 0) (xs := [Str.ofString "octet"]) (fun P => by exact rfl) (fun P => by k_is) (fun _ s => BindsTo.of_eq rfl) (by decide) rfl rfl rfl (by decide) ?_
  intro c ok
  exact Ex.ret (Ev.cmp (Ev.loc ok rfl) (Ev.gbyt ok rfl (g_BLANKS _)) (Bn.inbyt h0 h1))
theorem dig_1 {o : Int} (h : (decide (48 ≤ o) && decide (o ≤ 57)) = true) : o - 48 = digZ o := by rw [digZ, if_pos (by simpa using h)]
theorem dig_2 {o : Int} (h0 : (decide (48 ≤ o) && decide (o ≤ 57)) = false) (h : (decide (97 ≤ o) && decide (o ≤ 122)) = true) : o - 87 = digZ o := by
  rw [digZ, if_neg (by simpa using h0), if_pos (by simpa using h)]
theorem dig_3 {o : Int} (h0 : (decide (48 ≤ o) && decide (o ≤ 57)) = false) (h1 : (decide (97 ≤ o) && decide (o ≤ 122)) = false) (h : (decide (65 ≤ o) && decide (o ≤ 90)) = true) : o - 55 = digZ o := by
  rw [digZ, if_neg (by simpa using h0), if_neg (by simpa using h1), if_pos (by simpa using h)]
theorem dig_4 {o : Int} (h0 : (decide (48 ≤ o) && decide (o ≤ 57)) = false) (h1 : (decide (97 ≤ o) && decide (o ≤ 122)) = false) (h : (decide (65 ≤ o) && decide (o ≤ 90)) = false) : -1 = digZ o := by
  rw [digZ, if_neg (by simpa using h0), if_neg (by simpa using h1), if_neg (by simpa using h)]
theorem digit_of_r {o : Int} : GivesR 1 156 [.int o] (.int (digZ o)) := by
  refine givesR_fn (lev := 0) (xs := [Str.ofString "octet"]) (fun P => by exact rfl) (fun P => by k_is) (fun _ s => BindsTo.of_eq rfl) (by decide) rfl rfl rfl (by decide) ?_
  intro c ok
  refine Ex.ifr (Tv.chain Ev.cint (Ev.loc ok rfl) Bn.le (fun _ => Ev.cint) fun _ => Bn.le) (fun h => Ex.ret (Ev.int_of (dig_1 h) (Ev.bin (Ev.loc ok rfl) Ev.cint Bn.sub))) (fun h0 => ?_) fun _ _ => ret_next
  refine Ex.ifr (Tv.chain Ev.cint (Ev.loc ok rfl) Bn.le (fun _ => Ev.cint) fun _ => Bn.le) (fun h => Ex.ret (Ev.int_of (dig_2 h0 h) (Ev.bin (Ev.loc ok rfl) Ev.cint Bn.sub))) (fun h1 => ?_) fun _ _ => ret_next
  refine Ex.ifr (Tv.chain Ev.cint (Ev.loc ok rfl) Bn.le (fun _ => Ev.cint) fun _ => Bn.le) (fun h => Ex.ret (Ev.int_of (dig_3 h0 h1 h) (Ev.bin (Ev.loc ok rfl) Ev.cint Bn.sub))) (fun h2 => ?_) fun _ _ => ret_next
  exact Ex.ret (Ev.int_of (dig_4 h0 h1 h2) (Ev.neg Ev.cint))
end
noncomputable abbrev tup (vs : List Value) : Obj := { cls := .type "tuple", data := .seq vs.toArray }
-- e comes to a new tuple of two
noncomputable def EvT (S : Fs) (c : Act) (Γ : Gam) (e : PySem.Expr) (r1 r2 : Rv) : Prop :=
  ∀ m (s : Shared) (Q E : Value → Shared → Prop), GOk c Γ m → Fr c.h₀ c.L s.heap m → News c.h₀ c.L s.heap c.news →
    (∀ a v1 v2 h' tk', Fr c.h₀ c.L h' m → News c.h₀ c.L h' ((a, tup [v1, v2]) :: c.news) → (∀ p ∈ c.news, p.1 < a) → r1.ok c v1 → r2.ok c v2 → Q (.ref a) { s with heap := h', toks := tk' }) → wpAny (model PR c.w) c.A (eval e (S.env c)) Q E s
-- a pair of values like r1, r2 is handed back
noncomputable def Pair (r1 r2 : Rv) (c : Act) (v : Value) (nw : Led) : Prop := ∃ a v1 v2, v = .ref a ∧ nw = (a, tup [v1, v2]) :: c.news ∧ (∀ p ∈ c.news, p.1 < a) ∧ r1.ok c v1 ∧ r2.ok c v2
theorem pair_same {r1 r2 : Rv} (c c' : Act) (v : Value) (nw : Led) (_ : c'.w = c.w) (h1 : c'.news = c.news) (h2 : c'.base = c.base) (h : Pair r1 r2 c' v nw) : Pair r1 r2 c v nw := by
  obtain ⟨a, v1, v2, h3, h4, h5, h6, h7⟩ := h
  exact ⟨a, v1, v2, h3, h1 ▸ h4, h1 ▸ h5, rv_same h1.symm h2.symm h6, rv_same h1.symm h2.symm h7⟩
section
variable {S : Fs} {c : Act} {Γ : Gam} {n : Nat} {x y : Str} {pos xp yp tp sp : Pos} {a b e : PySem.Expr} {r ra rb r1 r2 : Rv} {d d' : D} {k k' : Nat} {rest : List Stmt}
theorem EvT.tuple (h1 : Ev (S.env c) c Γ a r1) (h2 : Ev (S.env c) c Γ b r2) (hs : ∀ env, starEach [a, b] env = (false, eval a env) :: starEach [b] env := by intro _; rfl) (hs2 : ∀ env, starEach [b] env = (false, eval b env) :: starEach [] env := by intro _; rfl) : EvT S c Γ (.Tuple [a, b] k pos) r1 r2 := fun m s Q E G F N k =>
  Tuple_ (EvL.args (.cons h1 (.cons h2 .nil hs2) hs) m s _ _ G F N fun vs _ _ F1 N1 hvs => by
    cases hvs with
    | cons h3 h4 =>
      cases h4 with
      | cons h5 h6 =>
        cases h6
        exact kup_newTuple F1 N1 (fun D h' F2 N2 l2 => k D _ _ h' _ F2 N2 l2 h3 h5) (Nat.le_of_ble_eq_true rfl))
theorem EvT.call {f : Addr} {lev : Nat} {e₁ : PySem.Expr} {es : List PySem.Expr} {rs : List Rv} (ok : Ok S c n) (hb : okN S x .globalImplicit = true) (h : nsIn (KK c) mainGlobals x = some (some (.ref f))) (hf : keepIn (KK c) (.ref f) = true)
    (C : Does lev f rs (Pair r1 r2)) (hl : lev ≤ n) (hes : EvL (S.env c) c Γ (e₁ :: es) rs) : EvT S c Γ (.Call (.Name x xp) (e₁ :: es) [] pos) r1 r2 := fun m s Q E G F N h2 =>
  Call_ (Ev.glob ok hb h m s _ _ G F N fun v _ _ F1 N1 hv => by
    cases hv
    have hs : starEach (e₁ :: es) (S.env c) = (false, eval e₁ (S.env c)) :: starEach es (S.env c) := by cases hes with | cons _ _ hs => exact hs _
    have hp : (backTo pos (starEach es (S.env c))).any (·.1) = false := by cases hes with | cons _ h3 _ => exact h3.plain _
    refine callWith_K ok.X hf (hes.args m _ _ _ G F1 N1 fun vs _ _ F2 N2 hvs => ⟨ok.X.keeps F2.keep, ?_⟩) hs hp
    exact C S c (ok.mono hl) vs m _ _ _ hvs F2 N2 fun v nw h' tk' F3 N3 hv => by
      obtain ⟨a, v1, v2, rfl, rfl, l, h3, h4⟩ := hv
      exact h2 a v1 v2 h' tk' F3 N3 l h3 h4)
theorem Ex.retT (h : EvT S c Γ e r1 r2) : Ex S c Γ (.Return (some e) pos :: rest) (RetP (Pair r1 r2) c) := fun m s Q E O G F N k =>
  wpAny_execs_cons (wpAny_Return_some (h m s _ _ G F N fun a v1 v2 h' tk' F1 N1 l h1 h2 => k (.ret (.ref a)) h' tk' m F1 ⟨_, _, rfl, N1, a, v1, v2, rfl, rfl, l, h1, h2⟩))
-- two names from two expressions at once
theorem Es.pair (ok : Ok S c n) (hx : okN S x .local = true) (hy : okN S y .local = true) (h : EvT S c Γ (.Tuple [a, b] k xp) r1 r2) (h1 : ∀ env, swapsWithSole [.Tuple [.Name x sp, .Name y yp] k' tp] (.Tuple [a, b] k xp) pos.line env = pure false)
    (h2 : swappedStores [.Tuple [.Name x sp, .Name y yp] k' tp] (.Tuple [a, b] k xp) (S.env c) = pure (some [x, y])) :
    Es S c Γ (.Assign [.Tuple [.Name x sp, .Name y yp] k' tp] (.Tuple [a, b] k xp) pos) (Nxt c ((x, r1) :: (y, r2) :: Γ)) := fun m s Q E O G F N k =>
  Assign_Tuple_swapped (names := [x, y]) (h m s _ _ G F N fun a v1 v2 h' tk' F1 N1 l hv1 hv2 => by
    refine unpackItemsN_ (items := #[v1, v2]) F1 N1 ⟨_, (N1 _ (.head _)).1, rfl, 0, rfl⟩ ok.hh rfl fun h2 F2 N2 => ?_
    refine assignInOrder_cons (bindName_ (storeX_L F2 (fun p hp => N2 p (.tail _ hp)) (fun h3 F3 N3 => ?_) ok.hk (okN_1 hy)))
    refine assignInOrder_cons (bindName_ (storeX_L F3 N3 (fun h4 F4 N4 => ?_) ok.hk (okN_1 hx)))
    exact assignInOrder_nil (k .next h4 _ _ F4 ⟨rfl, N4, (G.set hv2).set hv1⟩)) (h1 _) h2
-- two names from a call that hands back a pair
theorem Es.unpack (ok : Ok S c n) (hx : okN S x .local = true) (hy : okN S y .local = true) (h : EvT S c Γ e r1 r2) (h1 : ∀ env, swapsWithSole [.Tuple [.Name x xp, .Name y yp] k tp] e pos.line env = pure false)
    (h2 : swappedStores [.Tuple [.Name x xp, .Name y yp] k tp] e (S.env c) = pure none) :
    Es S c Γ (.Assign [.Tuple [.Name x xp, .Name y yp] k tp] e pos) (Nxt c ((y, r2) :: (x, r1) :: Γ)) := fun m s Q E O G F N k =>
  Assign_Tuple (h m s _ _ G F N fun a v1 v2 h' tk' F1 N1 l hv1 hv2 => by
    refine unpackN_ (items := #[v1, v2]) F1 N1 ⟨_, (N1 _ (.head _)).1, rfl, 0, rfl⟩ ok.hh rfl rfl fun h2 F2 N2 => ?_
    refine assignInOrder_cons (assign_Name (storeX_L F2 (fun p hp => N2 p (.tail _ hp)) (fun h3 F3 N3 => ?_) ok.hk (okN_1 hx)))
    refine assignInOrder_cons (assign_Name (storeX_L F3 N3 (fun h4 F4 N4 => ?_) ok.hk (okN_1 hy)))
    exact assignInOrder_nil (k .next h4 _ _ F4 ⟨rfl, N4, (G.set hv1).set hv2⟩)) (h1 _) h2
-- the end of a break
noncomputable def Brk (c : Act) (Γ : Gam) (f : Flow) (m : Str → Option Value) (h : Heap) : Prop := f = .brk ∧ News c.h₀ c.L h c.news ∧ GOk c Γ m
theorem Ex.brk : Ex S c Γ (.Break pos :: rest) (Brk c Γ) := fun m s Q E O G F N k => wpAny_execs_cons (wpAny_Break (k .brk s.heap s.toks m F ⟨rfl, N, G⟩))
-- a test that breaks off, or the rest
theorem Ex.ifb {t : Bool} {body : List Stmt} {R : Flow → (Str → Option Value) → Heap → Prop} (h : Tv (S.env c) c Γ e t) (h1 : t = true → Ex S c Γ body (Brk c Γ)) (hR : t = true → ∀ m h, GOk c Γ m → News c.h₀ c.L h c.news → R .brk m h) (h0 : t = false → Ex S c Γ rest R) : Ex S c Γ (.If e body [] pos :: rest) R := fun m s Q E O G F N k =>
  wpAny_execs_cons (wpAny_If (h m s _ _ _ rfl G F N fun _ _ F1 N1 => by
    cases t with
    | true =>
      simp only [if_true]
      exact h1 rfl m _ _ _ O G F1 N1 fun f h' tk' m' F' hr => by
        obtain ⟨rfl, N2, G2⟩ := hr
        exact k _ _ _ _ F' (hR rfl _ _ G2 N2)
    | false =>
      simp only [Bool.false_eq_true, if_false]
      exact wpAny_execs_nil (h0 rfl m _ _ _ O G F1 N1 k)))
end
noncomputable def skipF : Nat → List UInt8 → Nat → Nat
  | 0, _, k => k
  | n + 1, x, k => if inB blanks (oct x k) then skipF n x (k + 1) else k
noncomputable def skipB (x : List UInt8) (k : Nat) : Nat := skipF (x.length - k) x k
theorem skip_at {x : List UInt8} {k : Nat} (h : k < x.length) : skipB x k = if inB blanks (oct x k) then skipB x (k + 1) else k := by
  unfold skipB
  rw [show x.length - k = (x.length - (k + 1)) + 1 by (first | lia | omega)]; rfl
theorem skip_end {x : List UInt8} {k : Nat} (h : ¬ k < x.length) : skipB x k = k := by
  unfold skipB
  rw [show x.length - k = 0 by (first | lia | omega)]; rfl
noncomputable def stopD (x : List UInt8) (base : Int) (k : Nat) : Bool := decide (digZ (oct x k) < 0) || decide (digZ (oct x k) ≥ base)
noncomputable def readF : Nat → List UInt8 → Int → Int → Nat → Int × Nat
  | 0, _, _, f, k => (f, k)
  | n + 1, x, base, f, k => if stopD x base k then (f, k) else readF n x base (f * base + digZ (oct x k)) (k + 1)
noncomputable def readD (x : List UInt8) (base : Int) (f : Int) (k : Nat) : Int × Nat := readF (x.length - k) x base f k
theorem read_at {x : List UInt8} {base f : Int} {k : Nat} (h : k < x.length) : readD x base f k = if stopD x base k then (f, k) else readD x base (f * base + digZ (oct x k)) (k + 1) := by
  unfold readD
  rw [show x.length - k = (x.length - (k + 1)) + 1 by (first | lia | omega)]; rfl
theorem read_end {x : List UInt8} {base f : Int} {k : Nat} (h : ¬ k < x.length) : readD x base f k = (f, k) := by
  unfold readD
  rw [show x.length - k = 0 by (first | lia | omega)]; rfl
section
variable {S : Fs} {c : Act} {Γ : Gam} {n : Nat} {pos xp yp tp : Pos} {a b e : PySem.Expr} {r ra rb r1 r2 : Rv} {k : Nat} {rest : List Stmt}
theorem g_is_blank (P : Params) : nsIn (Mine.KF P) mainGlobals (Str.ofString "is_blank") = some (some (.ref 149)) := by k_is
theorem k_is_blank (P : Params) : keepIn (Mine.KF P) (.ref 149) = true := by k_is
theorem g_digit_of (P : Params) : nsIn (Mine.KF P) mainGlobals (Str.ofString "digit_of") = some (some (.ref 156)) := by k_is
theorem k_digit_of (P : Params) : keepIn (Mine.KF P) (.ref 156) = true := by k_is
-- the places of a loop along octets
theorem skip_blanks_r {x : List UInt8} {k0 : Nat} (hx : x.length ≤ 80) (hk : k0 ≤ x.length) : GivesR 2 170 [.byt x, .int k0] (.int (skipB x k0)) := by
  refine givesR_fn (lev := 1) (xs := [Str.ofString "text", Str.ofString "at"]) (fun P => by exact rfl) (fun P => by k_is) (fun _ _ s => BindsTo.of_eq rfl) (by decide) rfl rfl rfl (by decide) ?_
  intro c ok
  refine Ex.seq (Γ' := [(Str.ofString "at", .int (skipB x k0)), (Str.ofString "text", .byt x)]) (Es.while_ (σ := Nat) (fun k => [(Str.ofString "at", .int k), (Str.ofString "text", .byt x)]) (fun k => k ≤ x.length ∧ skipB x k = skipB x k0) (fun k => x.length - k) (fun k => decide ((k : Int) < x.length) && inB blanks (oct x k)) k0
    (.cons rfl (.cons rfl .nil)) ⟨hk, rfl⟩ ?_ ?_ ?_) (Ex.ret (Ev.loc ok rfl))
  · rintro k ⟨hk1, _⟩
    refine Tv.and (Tv.cmp (Ev.loc ok rfl) (Ev.len ok rfl (Ev.loc ok rfl) hx) Bn.lt) fun h => ?_
    have hlt : (k : Int) < x.length := of_decide_eq_true h
    exact Tv.of (Bool.and_true _) (Tv.and (Tv.plain (Ev.call ok rfl (g_is_blank _) (k_is_blank _) (is_blank_r (oct_lo x k) (oct_hi x k)) (Nat.le_refl _) (.cons (Ev.sub (Ev.loc ok rfl) (Ev.loc ok rfl) (Bn.octet (Int.natCast_nonneg k) hlt hx (fun _ _ => rfl) fun _ _ => rfl)) .nil))) fun _ => Tv.and_nil)
  · rintro k ⟨hk1, h2⟩ ht
    refine Ex.seq (Es.assign ok rfl (Ev.bin (Ev.loc ok rfl) Ev.cint Bn.add)) (Ex.nil fun m h G N => ⟨N, k + 1, ?_⟩)
    have h3 := of_decide_eq_true (Bool.and_eq_true_iff.mp ht).1
    rw [skip_at (by (first | lia | omega)), if_pos (Bool.and_eq_true_iff.mp ht).2] at h2
    exact ⟨by dsimp only; (first | lia | omega), ⟨by (first | lia | omega), h2⟩, G.sub (.cons rfl (.cons rfl .nil))⟩
  · rintro k ⟨hk1, h2⟩ ht m h G N
    have e : skipB x k = k := by
      by_cases h3 : k < x.length
      · rw [skip_at h3, if_neg]
        intro h4
        rw [h4, decide_eq_true (by (first | lia | omega) : (k : Int) < x.length)] at ht
        cases ht
      · rw [skip_end h3]
    rw [← h2, e]
    exact ⟨rfl, N, G⟩
theorem read_step {x : List UInt8} {k : Nat} {f base g : Int} (hx : x.length ≤ 8) (hk : k < x.length) (h0 : 0 ≤ f) (h1 : f < 16 ^ k) (hb0 : 10 ≤ base) (hb1 : base ≤ 16) (hg : 0 ≤ g) (hg2 : g < base) : 0 ≤ f * base + g ∧ f * base + g < 16 ^ (k + 1) ∧ IntMulOk f base := by
  have hm : f * base ≤ f * 16 := Int.mul_le_mul_of_nonneg_left hb1 h0
  have hm0 : 0 ≤ f * base := Int.mul_nonneg h0 (by (first | lia | omega))
  refine ⟨by (first | lia | omega), by rw [Int.pow_succ]; (first | lia | omega), IntMulOk.of_left ?_⟩
  have h3 : f < 4294967296 := Int.lt_of_lt_of_le h1 (by
    have h2 : (16 : Nat) ^ k ≤ 16 ^ 8 := Nat.pow_le_pow_right (by decide) (by (first | lia | omega))
    have h4 : (16 : Int) ^ k = ((16 ^ k : Nat) : Int) := by rw [Int.natCast_pow]; rfl
    rw [h4]; (first | lia | omega))
  exact intBits_le_iff.mpr (Nat.lt_of_lt_of_le (by (first | lia | omega) : f.natAbs < 4294967296) (by decide))
theorem read_digits_r {x : List UInt8} {k0 : Nat} {base : Int} (hx : x.length ≤ 8) (hk : k0 ≤ x.length) (hb0 : 10 ≤ base) (hb1 : base ≤ 16) :
    Does 2 163 [.byt x, .int k0, .int base] (Pair (.int (readD x base 0 k0).1) (.int (readD x base 0 k0).2)) := by
  refine does_fn (lev := 1) (xs := [Str.ofString "text", Str.ofString "at", Str.ofString "base"]) (fun P => by exact rfl) (fun P => by k_is) (fun _ _ _ s => BindsTo.of_eq rfl) (by decide) rfl rfl rfl (by decide) pair_same ?_
  intro c ok
  have hz : x.length ≤ 80 := by (first | lia | omega)
  refine Ex.seq (Es.assign ok rfl Ev.cint) ?_
  refine Ex.seq (Γ' := [(Str.ofString "found", .int (readD x base 0 k0).1), (Str.ofString "at", .int (readD x base 0 k0).2)]) (Es.while_ (σ := Int × Nat) (fun p => [(Str.ofString "found", .int p.1), (Str.ofString "at", .int p.2), (Str.ofString "text", .byt x), (Str.ofString "base", .int base)])
    (fun p => p.2 ≤ x.length ∧ 0 ≤ p.1 ∧ p.1 < 16 ^ p.2 ∧ readD x base p.1 p.2 = readD x base 0 k0) (fun p => x.length - p.2) (fun p => decide ((p.2 : Int) < x.length)) (0, k0)
    (.cons rfl (.cons rfl (.cons rfl (.cons rfl .nil)))) ⟨hk, Int.le_refl 0, Int.pow_pos (by decide), rfl⟩ ?_ ?_ ?_) (Ex.retT (EvT.tuple (Ev.loc ok rfl) (Ev.loc ok rfl)))
  · rintro ⟨f, k⟩ ⟨hk1, _⟩
    exact Tv.cmp (Ev.loc ok rfl) (Ev.len ok rfl (Ev.loc ok rfl) hz) Bn.lt
  · rintro ⟨f, k⟩ ⟨hk1, hf0, hf1, h2⟩ ht
    have hlt : (k : Int) < x.length := of_decide_eq_true ht
    have hkx : k < x.length := by (first | lia | omega)
    dsimp only at hf0 hf1 h2 hk1
    rw [read_at hkx] at h2
    refine Ex.seq (Es.assign ok rfl (Ev.call ok rfl (g_digit_of _) (k_digit_of _) digit_of_r (Nat.le_refl _) (.cons (Ev.sub (Ev.loc ok rfl) (Ev.loc ok rfl) (Bn.octet (Int.natCast_nonneg k) hlt hz (fun _ _ => rfl) fun _ _ => rfl)) .nil))) ?_
    refine Ex.ifb (t := stopD x base k) (Tv.or (Tv.cmp (Ev.loc ok rfl) Ev.cint Bn.lt) fun _ => Tv.of (Bool.or_false _) (Tv.or (Tv.cmp (Ev.loc ok rfl) (Ev.loc ok rfl) Bn.ge) fun _ => Tv.or_nil)) (fun _ => Ex.brk) (fun hst m h G N => ?_) fun hst => ?_
    · rw [if_pos hst] at h2
      rw [← h2]
      exact ⟨rfl, N, G.sub (.cons rfl (.cons rfl .nil))⟩
    · rw [if_neg (by rw [hst]; exact Bool.false_ne_true)] at h2
      obtain ⟨hs1, hs2⟩ := Bool.or_eq_false_iff.mp hst
      have hs1 := of_decide_eq_false hs1
      have hs2 := of_decide_eq_false hs2
      obtain ⟨hm0, hm1, hm2⟩ := read_step hx hkx hf0 hf1 hb0 hb1 (by (first | lia | omega) : 0 ≤ digZ (oct x k)) (by (first | lia | omega) : digZ (oct x k) < base)
      refine Ex.seq (Es.assign ok rfl (Ev.bin (Ev.bin (Ev.loc ok rfl) (Ev.loc ok rfl) (Bn.mul hm2)) (Ev.loc ok rfl) Bn.add)) ?_
      exact Ex.seq (Es.assign ok rfl (Ev.bin (Ev.loc ok rfl) Ev.cint Bn.add)) (Ex.nil fun m h G N => ⟨N, (_, k + 1), by dsimp only; (first | lia | omega), ⟨by dsimp only; (first | lia | omega), hm0, hm1, h2⟩, G.sub (.cons rfl (.cons rfl (.cons rfl (.cons rfl .nil))))⟩)
  · rintro ⟨f, k⟩ ⟨hk1, hf0, hf1, h2⟩ ht m h G N
    dsimp only at h2
    have h3 : ¬ k < x.length := fun h => absurd (of_decide_eq_false ht) (by dsimp only; (first | lia | omega))
    rw [read_end h3] at h2
    rw [← h2]
    exact ⟨rfl, N, G.sub (.cons rfl (.cons rfl .nil))⟩
end
-- a cell of the script
noncomputable def cellZ (ns : List Int) (at_ : Int) : Int := if ns.length = 0 then 389 * at_ * at_ + 17 * at_ + 1 else ns.getD (at_.fmod ns.length).toNat 0 + at_.fdiv ns.length
-- one turn of the hash
noncomputable def hashTurn (f : Int) (b : Int) : Int := Builtin.bitAnd (Builtin.bitXor f (f * 2 ^ 5 + f.fdiv (2 ^ 2) + b)) 4294967295
-- the hash from the place k on downwards
noncomputable def hashN (x : List UInt8) (step : Nat) : Nat → Int → Nat → Int
  | 0, f, _ => f
  | n + 1, f, k => if step ≤ k then hashN x step n (hashTurn f (oct x (k - 1))) (k - step) else f
theorem hashN_more {x : List UInt8} {step : Nat} (hs : 0 < step) : ∀ n m f k, k ≤ n → k ≤ m → hashN x step n f k = hashN x step m f k := by
  intro n
  induction n with
  | zero =>
    intro m f k h _
    cases m with
    | zero => rfl
    | succ m => rw [hashN, hashN, if_neg (Nat.not_le_of_lt (Nat.lt_of_le_of_lt h hs))]
  | succ n ih =>
    intro m f k h h2
    cases m with
    | zero => rw [hashN, hashN, if_neg (Nat.not_le_of_lt (Nat.lt_of_le_of_lt h2 hs))]
    | succ m =>
      rw [hashN, hashN]
      by_cases hk : step ≤ k
      · rw [if_pos hk, if_pos hk]; exact ih m _ _ (by lia) (by lia)
      · rw [if_neg hk, if_neg hk]
noncomputable def hashFrom (x : List UInt8) (step : Nat) (f : Int) (k : Nat) : Int := hashN x step k f k
theorem hashFrom_pos {x : List UInt8} {step k : Nat} {f : Int} (hs : 0 < step) (h : step ≤ k) : hashFrom x step f k = hashFrom x step (hashTurn f (oct x (k - 1))) (k - step) := by
  obtain ⟨j, rfl⟩ : ∃ j, k = j + 1 := ⟨k - 1, by lia⟩
  rw [hashFrom, hashN, if_pos h]
  exact hashN_more hs _ _ _ _ (by lia) (Nat.le_refl _)
theorem hashFrom_neg {x : List UInt8} {step k : Nat} {f : Int} (h : ¬ step ≤ k) : hashFrom x step f k = f := by
  cases k with
  | zero => rfl
  | succ k => rw [hashFrom, hashN, if_neg h]
noncomputable def hashZ (x : List UInt8) : Int := hashFrom x (x.length / 32 + 1) x.length x.length
section
variable {S : Fs} {c : Act} {Γ : Gam} {n : Nat} {pos xp yp tp : Pos} {a b e : PySem.Expr} {r ra rb r1 r2 : Rv} {k : Nat} {rest : List Stmt}
theorem mul_small {i j : Int} (h : i.natAbs < 2 ^ 64) : IntMulOk i j := IntMulOk.of_left (intBits_le_iff.mpr h)
theorem law_cell_r {ns : List Int} {k : Int} (hn : ns.length ≤ 63) (h0 : 0 ≤ k) (h1 : k ≤ 100) : GivesR 1 233 [.scr ns, .int k] (.int (cellZ ns k)) := by
  refine givesR_fn (lev := 0) (xs := [Str.ofString "script", Str.ofString "at"]) (fun P => by exact rfl) (fun P => by k_is) (fun _ _ s => BindsTo.of_eq rfl) (by decide) rfl rfl rfl (by decide) ?_
  intro c ok
  refine Ex.ifr (Tv.cmp (Ev.lenS ok rfl (Ev.loc ok rfl)) Ev.cint Bn.eq) (fun h => ?_) (fun h => ?_) fun _ _ => ret_next
  · refine Ex.ret (Ev.int_of (i := 389 * k * k + 17 * k + 1) ?_ (Ev.bin (Ev.bin (Ev.bin (Ev.bin Ev.cint (Ev.loc ok rfl) (Bn.mul (mul_small (by decide)))) (Ev.loc ok rfl) (Bn.mul (mul_small (by (first | lia | omega))))) (Ev.bin Ev.cint (Ev.loc ok rfl) (Bn.mul (mul_small (by decide)))) Bn.add) Ev.cint Bn.add))
    have := beq_iff_eq.mp h
    rw [cellZ, if_pos (by (first | lia | omega))]
  · have hz := beq_eq_false_iff_ne.mp h
    have hb := Int.fmod_nonneg_of_pos k (b := ns.length) (by (first | lia | omega))
    have hc := Int.fmod_lt_of_pos k (b := ns.length) (by (first | lia | omega))
    refine Ex.ret (Ev.int_of (i := ns.getD (k.fmod ns.length).toNat 0 + k.fdiv ns.length) ?_ (Ev.bin (Ev.sub (Ev.loc ok rfl) (Ev.bin (Ev.loc ok rfl) (Ev.lenS ok rfl (Ev.loc ok rfl)) (Bn.mod hz)) (Bn.itemS ok hb hc (fun _ _ => rfl) fun _ _ => rfl)) (Ev.bin (Ev.loc ok rfl) (Ev.lenS ok rfl (Ev.loc ok rfl)) (Bn.fdiv hz (by (first | lia | omega)))) Bn.add))
    rw [cellZ, if_neg (by (first | lia | omega))]
theorem g_MASK (P : Params) : nsIn (Mine.KF P) mainGlobals (Str.ofString "HASH_MASK") = some (some (.int 4294967295 214)) := by k_is
theorem hash_in {f i : Int} : 0 ≤ hashTurn f i ∧ hashTurn f i < 4294967296 := by rw [hashTurn, bitAnd_m32]; (first | lia | omega)
theorem string_hash_r {x : List UInt8} (hx : x.length ≤ 80) : GivesR 1 212 [.byt x] (.int (hashZ x)) := by
  refine givesR_fn (lev := 0) (xs := [Str.ofString "text"]) (fun P => by exact rfl) (fun P => by k_is) (fun _ s => BindsTo.of_eq rfl) (by decide) rfl rfl rfl (by decide) ?_
  intro c ok
  refine Ex.seq (Es.pair ok rfl rfl (EvT.tuple (Ev.bin (Ev.len ok rfl (Ev.loc ok rfl) hx) (Ev.gint ok rfl (g_MASK _)) Bn.and) (Ev.len ok rfl (Ev.loc ok rfl) hx)) (fun _ => rfl) (by with_unfolding_all rfl)) ?_
  refine Ex.seq (Es.assign ok rfl (Ev.bin (Ev.bin (Ev.len ok rfl (Ev.loc ok rfl) hx) Ev.cint (Bn.shr (by decide))) Ev.cint Bn.add)) ?_
  have eS : ((x.length : Nat) : Int).fdiv (2 ^ Int.toNat 5) + 1 = ((x.length / 32 + 1 : Nat) : Int) := by
    have e1 : ((x.length : Nat) : Int).fdiv (2 ^ Int.toNat 5) = (x.length : Int) / 32 := Int.fdiv_eq_ediv_of_nonneg _ (by decide)
    rw [e1]; (first | lia | omega)
  have e0 : Builtin.bitAnd ((x.length : Nat) : Int) 4294967295 = (x.length : Int) := by rw [bitAnd_m32]; (first | lia | omega)
  rw [eS, e0]
  refine Ex.seq (Γ' := [(Str.ofString "found", .int (hashZ x))]) (Es.while_ (σ := Int × Int) (fun p => [(Str.ofString "found", .int p.1), (Str.ofString "at", .int p.2), (Str.ofString "step", .int ((x.length / 32 + 1 : Nat) : Int)), (Str.ofString "text", .byt x)])
    (fun p => 0 ≤ p.1 ∧ p.1 < 4294967296 ∧ 0 ≤ p.2 ∧ p.2 ≤ x.length ∧ hashFrom x (x.length / 32 + 1) p.1 p.2.toNat = hashZ x) (fun p => p.2.toNat) (fun p => decide (p.2 ≥ ((x.length / 32 + 1 : Nat) : Int))) (x.length, x.length)
    (.cons rfl (.cons rfl (.cons rfl (.cons rfl .nil)))) ⟨Int.natCast_nonneg _, by dsimp only; (first | lia | omega), Int.natCast_nonneg _, Int.le_refl _, rfl⟩ ?_ ?_ ?_) (Ex.ret (Ev.loc ok rfl))
  · rintro ⟨f, k⟩ _
    exact Tv.cmp (Ev.loc ok rfl) (Ev.loc ok rfl) Bn.ge
  · rintro ⟨f, k⟩ ⟨hf0, hf1, hk0, hk1, h2⟩ ht
    have hge := of_decide_eq_true ht
    dsimp only at hf0 hf1 hk0 hk1 h2 hge
    rw [hashFrom_pos (Nat.succ_pos _) (by (first | lia | omega))] at h2
    have hb : ((Builtin.Int.intBits f : Nat) : Int) + 5 ≤ 2 ^ 27 := by
      have : Builtin.Int.intBits f ≤ 64 := intBits_le_iff.mpr (by (first | lia | omega))
      (first | lia | omega)
    refine Ex.seq (Es.assign ok rfl (r := .int (hashTurn f (oct x (k - 1).toNat))) (Ev.bin (Ev.bin (Ev.loc ok rfl) (Ev.bin (Ev.bin (Ev.bin (Ev.loc ok rfl) Ev.cint (Bn.shl (by decide) hb)) (Ev.bin (Ev.loc ok rfl) Ev.cint (Bn.shr (by decide))) Bn.add) (Ev.sub (Ev.loc ok rfl) (Ev.bin (Ev.loc ok rfl) Ev.cint Bn.sub) (Bn.octet (by (first | lia | omega)) (by (first | lia | omega)) hx (fun _ _ => rfl) fun _ _ => rfl)) Bn.add) Bn.xor) (Ev.gint ok rfl (g_MASK _)) Bn.and)) ?_
    refine Ex.seq (Es.assign ok rfl (Ev.bin (Ev.loc ok rfl) (Ev.loc ok rfl) Bn.sub)) (Ex.nil fun m h G N => ⟨N, (hashTurn f (oct x (k - 1).toNat), k - ((x.length / 32 + 1 : Nat) : Int)), ?_, ⟨hash_in.1, hash_in.2, ?_, ?_, ?_⟩, G.sub (.cons rfl (.cons rfl (.cons rfl (.cons rfl .nil))))⟩)
    · dsimp only; (first | lia | omega)
    · dsimp only; (first | lia | omega)
    · dsimp only; (first | lia | omega)
    · rw [← h2]
      dsimp only
      have e1 : (k - ((x.length / 32 + 1 : Nat) : Int)).toNat = k.toNat - (x.length / 32 + 1) := by (first | lia | omega)
      have e2 : (k - 1).toNat = k.toNat - 1 := by (first | lia | omega)
      rw [e1, e2]
  · rintro ⟨f, k⟩ ⟨hf0, hf1, hk0, hk1, h2⟩ ht m h G N
    have hge := of_decide_eq_false ht
    dsimp only at hk0 h2 hge
    rw [hashFrom_neg (by (first | lia | omega))] at h2
    rw [← h2]
    exact ⟨rfl, N, G.sub (.cons rfl .nil)⟩
end
noncomputable def textsL : List (List UInt8) := [[], [48], [49], [32, 49, 50, 32], [45, 51], [110, 105, 108], [116, 114, 117, 101], [48, 120, 49, 102], [49, 101, 50], [43], [55, 32, 55], [120]]
-- the number that a text of the menu tells
noncomputable def numOfText (x : List UInt8) : Option Int := if x = [48] then some 0 else if x = [49] then some 1 else if x = [32, 49, 50, 32] then some 12 else if x = [45, 51] then some (-3) else if x = [48, 120, 49, 102] then some 31 else none
-- a sign stands at k
noncomputable def sgn (x : List UInt8) (k : Nat) : Bool := decide ((k : Int) < x.length) && inB [43, 45] (oct x k)
noncomputable def bel (x : List UInt8) (k : Nat) : Bool := if sgn x k then oct x k == 45 else false
noncomputable def at1 (x : List UInt8) (k : Nat) : Nat := if sgn x k then k + 1 else k
noncomputable def mk1 (x : List UInt8) (k : Nat) : Bool := decide ((k : Int) + 2 < x.length) && (oct x k == 48 && (inB [120, 88] (oct x (k + 1)) && ([0, 16].any fun z => z == (0 : Int))))
noncomputable def mk2 (x : List UInt8) (k : Nat) : Bool := mk1 x k && (decide (0 ≤ digZ (oct x (k + 2))) && decide (digZ (oct x (k + 2)) < 16))
noncomputable def at2 (x : List UInt8) (k : Nat) : Nat := if mk2 x k then k + 2 else k
noncomputable def bas (x : List UInt8) (k : Nat) : Int := if mk2 x k then 16 else 10
-- what the text tells, from the place k (behind the sign) on
noncomputable def tell (x : List UInt8) (k : Nat) : Option Int :=
  if (((readD x (bas x k) 0 (at2 x k)).2 : Nat) : Int) == ((at2 x k : Nat) : Int) || ((skipB x (readD x (bas x k) 0 (at2 x k)).2 : Nat) : Int) != (x.length : Int) then none else some (readD x (bas x k) 0 (at2 x k)).1
noncomputable def tib (x : List UInt8) : Option Int := (tell x (at1 x (skipB x 0))).map fun i => if bel x (skipB x 0) then -i else i
theorem tib_texts : ∀ x ∈ textsL, x.length ≤ 8 ∧ tib x = numOfText x := by decide
section
variable {S : Fs} {c : Act} {Γ Γ' : Gam} {n : Nat} {pos xp yp tp : Pos} {a b e : PySem.Expr} {r ra rb r1 r2 : Rv} {k : Nat} {rest : List Stmt}
theorem Un.width {w : Int} (ok : Ok S c n) : Un c (fun o => getAttr o (Str.ofString "width") true) (.lim w) (.int w) := fun m u s Q E F N hu k => by
  have X : (Mine.KF c.w.params).In c.h₀ := ok.X
  cases hu with
  | mk h1 h2 h3 h4 => exact get_own F X (InstAt.of_news N h1 h2) (by k_is) (by k_is) (by k_is) (by k_is) (by rfl) (by k_handed) (k _ _ ⟨_, rfl⟩)
theorem Ev.num_none (h : Ev (S.env c) c Γ e (.ex .none)) : Ev (S.env c) c Γ e (.num none) := h
theorem Ev.num_some {i : Int} {o : Option Int} (q : some i = o) (h : Ev (S.env c) c Γ e (.int i)) : Ev (S.env c) c Γ e (.num o) := q ▸ h
theorem Ev.none_num {o : Option Int} (q : none = o) (h : Ev (S.env c) c Γ e (.ex .none)) : Ev (S.env c) c Γ e (.num o) := q ▸ h
theorem g_wrap (P : Params) : nsIn (Mine.KF P) mainGlobals (Str.ofString "wrap") = some (some (.ref 142)) := by k_is
theorem k_wrap (P : Params) : keepIn (Mine.KF P) (.ref 142) = true := by k_is
theorem g_skip (P : Params) : nsIn (Mine.KF P) mainGlobals (Str.ofString "skip_blanks") = some (some (.ref 170)) := by k_is
theorem k_skip (P : Params) : keepIn (Mine.KF P) (.ref 170) = true := by k_is
theorem g_read (P : Params) : nsIn (Mine.KF P) mainGlobals (Str.ofString "read_digits") = some (some (.ref 163)) := by k_is
theorem k_read (P : Params) : keepIn (Mine.KF P) (.ref 163) = true := by k_is
theorem skipF_le (x : List UInt8) : ∀ n k, k + n = x.length → skipF n x k ≤ x.length
  | 0, k, h => by rw [skipF]; (first | lia | omega)
  | n + 1, k, h => by
    rw [skipF]
    split
    · exact skipF_le x n (k + 1) (by (first | lia | omega))
    · (first | lia | omega)
theorem skipB_le {x : List UInt8} {k : Nat} (h : k ≤ x.length) : skipB x k ≤ x.length := skipF_le x _ k (by (first | lia | omega))
theorem readF_le (x : List UInt8) (base : Int) : ∀ n f k, k + n = x.length → (readF n x base f k).2 ≤ x.length
  | 0, f, k, h => by rw [readF]; dsimp only; (first | lia | omega)
  | n + 1, f, k, h => by
    rw [readF]
    split
    · dsimp only; (first | lia | omega)
    · exact readF_le x base n _ (k + 1) (by (first | lia | omega))
theorem readD_le {x : List UInt8} {base f : Int} {k : Nat} (h : k ≤ x.length) : (readD x base f k).2 ≤ x.length := readF_le x base _ f k (by (first | lia | omega))
set_option tactic.hygienic true in
theorem at1_le {x : List UInt8} {k : Nat} (h : k ≤ x.length) : at1 x k ≤ x.length := by
  unfold at1
  split
  · rename_i hs
    have := of_decide_eq_true (Bool.and_eq_true_iff.mp hs).1
    (first | lia | omega)
  · exact h
theorem mk2_lt {x : List UInt8} {k : Nat} (h : mk1 x k = true) : (k : Int) + 2 < x.length := of_decide_eq_true (Bool.and_eq_true_iff.mp h).1
set_option tactic.hygienic true in
theorem at2_le {x : List UInt8} {k : Nat} (h : k ≤ x.length) : at2 x k ≤ x.length := by
  unfold at2
  split
  · rename_i hs
    have := mk2_lt (Bool.and_eq_true_iff.mp hs).1
    (first | lia | omega)
  · exact h
-- octets at a place that is not written
theorem Ev.octN {y : List UInt8} {k : Nat} {i : Int} (h1 : Ev (S.env c) c Γ a (.byt y)) (h2 : Ev (S.env c) c Γ b (.int i)) (hi : i = (k : Int)) (hk : k < y.length) (hz : y.length ≤ 80) (hs : ∀ o i, subscripted b false o i = operate [o, i] (getItem o i) := by intro _ _; rfl) (hl : ∀ o r, letTemporaryGo a o r = pure () := by intro _ _; rfl) : Ev (S.env c) c Γ (.Subscript a b pos) (.int (oct y k)) := by
  subst hi
  exact Ev.sub h1 h2 (Bn.octet (Int.natCast_nonneg k) (by (first | lia | omega)) hz hs hl)
set_option tactic.hygienic true in
theorem text_in_base_r {x : List UInt8} {w : Int} (hx : x.length ≤ 8) (hw2 : 2 ≤ w) (hw : w ≤ 71) : GivesR 4 184 [.byt x, .int 0, .lim w] (.num ((tib x).map fun i => wrapZ i w)) := by
  refine givesR_fn (lev := 3) (xs := [Str.ofString "text", Str.ofString "base", Str.ofString "limits"]) (fun P => by exact rfl) (fun P => by k_is) (fun _ _ _ s => BindsTo.of_eq rfl) (by decide) rfl rfl rfl (by decide) ?_
  intro c ok
  have hz : x.length ≤ 80 := by (first | lia | omega)
  have hk0 : skipB x 0 ≤ x.length := skipB_le (Nat.zero_le _)
  unfold tib
  refine Ex.seq (Es.pair ok rfl rfl (EvT.tuple (Ev.call ok rfl (g_skip _) (k_skip _) (skip_blanks_r (k0 := 0) hz (Nat.zero_le _)) (by decide) (.cons (Ev.loc ok rfl) (.cons Ev.cint .nil))) Ev.cbool) (fun _ => rfl) (by with_unfolding_all rfl)) ?_
  generalize skipB x 0 = k0 at *
  refine Ex.seq (Γ' := [(Str.ofString "at", .int (at1 x k0)), (Str.ofString "is_below", .bool (bel x k0)), (Str.ofString "text", .byt x), (Str.ofString "base", .int 0), (Str.ofString "limits", .lim w)])
    (Es.if_ (t := sgn x k0) (Tv.and (Tv.cmp (Ev.loc ok rfl) (Ev.len ok rfl (Ev.loc ok rfl) hz) Bn.lt) fun h => Tv.of (Bool.and_true _) (Tv.and (Tv.cmp (Ev.octN (Ev.loc ok rfl) (Ev.loc ok rfl) rfl (by have := of_decide_eq_true h; (first | lia | omega)) hz) Ev.cbyt (Bn.inbyt (oct_lo _ _) (oct_hi _ _))) fun _ => Tv.and_nil)) ?_ ?_) ?_
  · intro h
    have hlt := of_decide_eq_true (Bool.and_eq_true_iff.mp h).1
    refine Ex.seq (Es.assign ok rfl (Ev.cmp (Ev.octN (Ev.loc ok rfl) (Ev.loc ok rfl) rfl (by (first | lia | omega)) hz) Ev.cint Bn.eq)) (Ex.seq (Es.assign ok rfl (Ev.bin (Ev.loc ok rfl) Ev.cint Bn.add)) (Ex.nil fun m h' G N => ⟨rfl, N, ?_⟩))
    rw [at1, bel, if_pos h, if_pos h]
    exact G.sub (.cons rfl (.cons rfl (.cons rfl (.cons rfl (.cons rfl .nil)))))
  · intro h
    refine Ex.nil fun m h' G N => ⟨rfl, N, ?_⟩
    rw [at1, bel, if_neg (by rw [h]; exact Bool.false_ne_true), if_neg (by rw [h]; exact Bool.false_ne_true)]
    exact G.sub (.cons rfl (.cons rfl (.cons rfl (.cons rfl (.cons rfl .nil)))))
  have hk1 := at1_le hk0
  generalize at1 x k0 = k1 at *
  generalize bel x k0 = bl at *
  refine Ex.seq (Es.assign ok rfl (r := .bool (mk1 x k1)) (Ev.and_cons (Ev.cmp (Ev.bin (Ev.loc ok rfl) Ev.cint Bn.add) (Ev.len ok rfl (Ev.loc ok rfl) hz) Bn.lt) fun h => ?_)) ?_
  · have hlt := of_decide_eq_true h
    exact Ev.and_cons (Ev.cmp (Ev.octN (Ev.loc ok rfl) (Ev.loc ok rfl) rfl (by (first | lia | omega)) hz) Ev.cint Bn.eq) fun _ => Ev.and2 (Ev.cmp (Ev.octN (k := k1 + 1) (Ev.loc ok rfl) (Ev.bin (Ev.loc ok rfl) Ev.cint Bn.add) rfl (by (first | lia | omega)) hz) Ev.cbyt (Bn.inbyt (oct_lo _ _) (oct_hi _ _))) fun _ => Ev.inTuple (is := [0, 16]) (Ev.loc ok rfl) (.cons Ev.cint (.cons Ev.cint .nil)) (by decide)
  refine Ex.seq (Γ' := [(Str.ofString "at", .int (at2 x k1)), (Str.ofString "base", .int (if mk2 x k1 then 16 else 0)), (Str.ofString "is_below", .bool bl), (Str.ofString "text", .byt x), (Str.ofString "limits", .lim w)])
    (Es.if_ (t := mk2 x k1) (Tv.and (Tv.plain (Ev.loc ok rfl)) fun h => ?_) ?_ ?_) ?_
  · have hlt := mk2_lt h
    exact Tv.of (Bool.and_true _) (Tv.and (Tv.chain Ev.cint (Ev.call ok rfl (g_digit_of _) (k_digit_of _) digit_of_r (by decide) (.cons (Ev.octN (k := k1 + 2) (Ev.loc ok rfl) (Ev.bin (Ev.loc ok rfl) Ev.cint Bn.add) rfl (by (first | lia | omega)) hz) .nil)) Bn.le (fun _ => Ev.cint) fun _ => Bn.lt) fun _ => Tv.and_nil)
  · intro h
    refine Ex.seq (Es.pair ok rfl rfl (EvT.tuple (Ev.bin (Ev.loc ok rfl) Ev.cint Bn.add) Ev.cint) (fun _ => rfl) (by with_unfolding_all rfl)) (Ex.nil fun m h' G N => ⟨rfl, N, ?_⟩)
    rw [at2, if_pos h, if_pos h]
    exact G.sub (.cons rfl (.cons rfl (.cons rfl (.cons rfl (.cons rfl .nil)))))
  · intro h
    refine Ex.nil fun m h' G N => ⟨rfl, N, ?_⟩
    rw [at2, if_neg (by rw [h]; exact Bool.false_ne_true), if_neg (by rw [h]; exact Bool.false_ne_true)]
    exact G.sub (.cons rfl (.cons rfl (.cons rfl (.cons rfl (.cons rfl .nil)))))
  have hk2 := at2_le hk1
  have hb : 10 ≤ bas x k1 ∧ bas x k1 ≤ 16 := by unfold bas; split <;> decide
  have he := readD_le (base := bas x k1) (f := 0) hk2
  refine Ex.seq (Es.unpack ok rfl rfl (EvT.call ok rfl (g_read _) (k_read _) (read_digits_r (base := bas x k1) hx hk2 hb.1 hb.2) (by decide) (.cons (Ev.loc ok rfl) (.cons (Ev.loc ok rfl) (.cons (Ev.ite (t := (if mk2 x k1 then (16 : Int) else 0) == 0) (Tv.cmp (Ev.loc ok rfl) Ev.cint Bn.eq) (fun h => Ev.int_of ?_ Ev.cint) fun h => Ev.int_of ?_ (Ev.loc ok rfl)) .nil)))) (fun _ => rfl) (by with_unfolding_all rfl)) ?_
  · unfold bas
    split at h
    · exact absurd h (by decide)
    · rename_i hm; rw [if_neg hm]
  · unfold bas
    split at h
    · rename_i hm; rw [if_pos hm, if_pos hm]
    · exact absurd h (by decide)
  refine Ex.ifr (Tv.or (Tv.cmp (Ev.loc ok rfl) (Ev.loc ok rfl) Bn.eq) fun _ => Tv.of (Bool.or_false _) (Tv.or (Tv.cmp (Ev.call ok rfl (g_skip _) (k_skip _) (skip_blanks_r hz he) (by decide) (.cons (Ev.loc ok rfl) (.cons (Ev.loc ok rfl) .nil))) (Ev.len ok rfl (Ev.loc ok rfl) hz) Bn.ne) fun _ => Tv.or_nil)) (fun h => Ex.ret (Ev.none_num ?_ Ev.cnone)) (fun h => ?_) fun _ _ => ret_next
  · rw [tell, if_pos h]; rfl
  · refine Ex.ret (Ev.num_some ?_ (Ev.call ok rfl (g_wrap _) (k_wrap _) (wrap_r hw2 hw) (by decide) (.cons (Ev.ite (r := .int (if bl then -(readD x (bas x k1) 0 (at2 x k1)).1 else (readD x (bas x k1) 0 (at2 x k1)).1)) (Tv.plain (Ev.loc ok rfl)) (fun h => Ev.int_of (if_pos h).symm (Ev.neg (Ev.loc ok rfl))) fun h => Ev.int_of (if_neg (by rw [h]; exact Bool.false_ne_true)).symm (Ev.loc ok rfl)) (.cons (Ev.attr (Ev.loc ok rfl) (Un.width ok)) .nil))))
    have hn := Bool.eq_false_iff.mp h
    rw [tell, if_neg hn]; rfl
end
noncomputable abbrev Act.led (c : Act) (nw : Led) : Act := { c with news := nw }
-- values that no ledger bears
noncomputable def Rv.flat : Rv → Bool
  | .dat _ => false
  | .lim _ => false
  | _ => true
theorem Rv.ok_flat {c : Act} {nw : Led} : ∀ {r : Rv} {v : Value}, r.flat = true → r.ok c v → r.ok (c.led nw) v
  | .ex _, _, _, h => h
  | .int _, _, _, h => h
  | .byt _, _, _, h => h
  | .str _, _, _, h => h
  | .held _, _, _, h => h
  | .scr _, _, _, h => h
  | .num none, _, _, h => h
  | .num (some _), _, _, h => h
  | .txt none, _, _, h => h
  | .txt (some _), _, _, h => h
  | .dat _, _, e, _ => nomatch e
  | .lim _, _, e, _ => nomatch e
theorem lookup_mem {Γ : Gam} {x : Str} {r : Rv} (h : Γ.lookup x = some r) : ∃ y, (y, r) ∈ Γ := by
  induction Γ with
  | nil => cases h
  | cons p Γ ih =>
    rw [List.lookup_cons] at h
    cases hx : x == p.1 with
    | true => rw [hx] at h; cases h; exact ⟨p.1, .head _⟩
    | false => rw [hx] at h; obtain ⟨y, hy⟩ := ih h; exact ⟨y, .tail _ hy⟩
theorem GOk.flat {c : Act} {Γ : Gam} {m : Str → Option Value} (nw : Led) (G : GOk c Γ m) (h : Γ.all (fun p => p.2.flat) = true) : GOk (c.led nw) Γ m := fun x r e => by
  obtain ⟨v, h1, h2⟩ := G x r e
  obtain ⟨y, hy⟩ := lookup_mem e
  exact ⟨v, h1, Rv.ok_flat (List.all_eq_true.mp h _ hy) h2⟩
theorem Rv.ok_mono {c : Act} {nw : Led} (hs : ∀ p ∈ c.news, p ∈ nw) : ∀ {r : Rv} {v : Value}, r.ok c v → r.ok (c.led nw) v
  | .dat _, _, h => VRel.mono h hs
  | .lim _, _, h => LimRel.mono h hs
  | .ex _, _, h => h
  | .int _, _, h => h
  | .byt _, _, h => h
  | .str _, _, h => h
  | .held _, _, h => h
  | .scr _, _, h => h
  | .num none, _, h => h
  | .num (some _), _, h => h
  | .txt none, _, h => h
  | .txt (some _), _, h => h
theorem GOk.mono {c : Act} {nw : Led} {Γ : Gam} {m : Str → Option Value} (G : GOk c Γ m) (hs : ∀ p ∈ c.news, p ∈ nw) : GOk (c.led nw) Γ m := fun x r e => by
  obtain ⟨v, h1, h2⟩ := G x r e
  exact ⟨v, h1, Rv.ok_mono hs h2⟩
theorem Ok.led {S : Fs} {c : Act} {n : Nat} (h : Ok S c n) (nw : Led) : Ok S (c.led nw) n := ⟨h.B, h.X, h.T, h.fr, h.hh, h.hk, h.hd, h.hu⟩
-- e makes objects: P says of the value and of the ledger behind it
noncomputable def EvN (V : Env) (c : Act) (Γ : Gam) (e : PySem.Expr) (P : Value → Led → Prop) : Prop :=
  ∀ m (s : Shared) (Q E : Value → Shared → Prop), GOk c Γ m → Fr c.h₀ c.L s.heap m → News c.h₀ c.L s.heap c.news →
    (∀ v nw h' tk', Fr c.h₀ c.L h' m → News c.h₀ c.L h' nw → P v nw → Q v { s with heap := h', toks := tk' }) → wpAny (model PR c.w) c.A (eval e V) Q E s
-- the call of a method, as it is read
noncomputable def IsMeth (env : Env) (x : Str) (xp : Pos) (nm : Str) (yp : Pos) (args : List PySem.Expr) (mp : Pos) : Prop := ∃ pl : Sem Bool, eval (.Call (.Attribute (.Name x xp) nm yp) args [] mp) env = (do
  let ov ← eval (.Name x xp) env
  standAt yp.atName
  let (f, first) ← holding [ov] (getMethod ov nm pl)
  callWith mp f first (backTo mp (starEach args env)) [])
noncomputable abbrev lst (vs : List Value) (n : Nat) : Obj := W.listOf vs.toArray n
-- a new list of whole numbers
noncomputable def NewL (nw0 : Led) (ks : List Int) (v : Value) (nw : Led) : Prop := ∃ l vs, v = .ref l ∧ nw = (l, lst vs 0) :: nw0 ∧ (∀ p ∈ nw0, p.1 < l) ∧ IntsAre vs ks
section
variable {S : Fs} {c : Act} {Γ Γ' : Gam} {n : Nat} {x y : Str} {pos xp yp tp sp mp : Pos} {a b e : PySem.Expr} {r ra rb r1 r2 : Rv} {k k' : Nat} {rest body : List Stmt} {R : Flow → (Str → Option Value) → Heap → Prop} {P : Value → Led → Prop}
theorem EvN.nil : EvN (S.env c) c Γ (.List [] pos) (NewL c.news []) := fun m s Q E G F N k =>
  List_ (args_nil (newList_K (vs := []) F N (fun l h' F1 N1 hl => k _ _ h' _ F1 N1 ⟨l, [], rfl, rfl, hl, .nil⟩) (Nat.zero_le _)))
theorem EvN.one {i : Int} (h : Ev (S.env c) c Γ e (.int i)) (hs : ∀ env, starEach [e] env = (false, eval e env) :: starEach [] env := by intro _; rfl) : EvN (S.env c) c Γ (.List [e] pos) (NewL c.news [i]) := fun m s Q E G F N k =>
  List_ (args_cons (h m s _ _ G F N fun v h' tk' F1 N1 ⟨t, hv⟩ => args_nil (newList_K (vs := [v]) F1 N1 (fun l h' F2 N2 hl => k _ _ h' _ F2 N2 ⟨l, [v], rfl, rfl, hl, hv ▸ .cons _ _ .nil⟩) (Nat.le_of_ble_eq_true rfl))) (hs _))
theorem EvN.ite {t : Bool} {d : PySem.Expr} (h : Tv (S.env c) c Γ e t) (h1 : t = true → EvN (S.env c) c Γ a P) (h0 : t = false → EvN (S.env c) c Γ d P) : EvN (S.env c) c Γ (.IfExp e a d pos) P := fun m s Q E G F N k =>
  IfExp_ (h m s _ _ _ rfl G F N fun _ _ F1 N1 => by
    cases t with
    | true => simp only [if_true]; exact h1 rfl m _ _ _ G F1 N1 k
    | false => simp only [Bool.false_eq_true, if_false]; exact h0 rfl m _ _ _ G F1 N1 k)
-- the place behind a statement, where the ledger may have changed
theorem Ex.seqL {st : Stmt} {R₁ : Flow → (Str → Option Value) → Heap → Prop} (h1 : Es S c Γ st R₁) (h2 : ∀ f m h, R₁ f m h → f = .next ∧ ∃ nw Γ', News c.h₀ c.L h nw ∧ GOk (c.led nw) Γ' m ∧ Ex S (c.led nw) Γ' rest R) : Ex S c Γ (st :: rest) R := fun m s Q E O G F N k =>
  wpAny_execs_cons (h1 m s _ _ O G F N fun f h' tk' m' F' hr => by
    obtain ⟨rfl, nw, Γ', N', G', h3⟩ := h2 f m' h' hr
    exact h3 m' _ _ _ O G' F' N' k)
-- a name and a new empty list
theorem Ex.pairList {i : Int} (ok : Ok S c n) (hx : okN S x .local = true) (hy : okN S y .local = true) (hf : Γ.all (fun p => p.2.flat) = true) (h : Ev (S.env c) c Γ a (.int i))
    (h1 : ∀ env, swapsWithSole [.Tuple [.Name x sp, .Name y yp] k' tp] (.Tuple [a, .List [] mp] k xp) pos.line env = pure false)
    (h2 : swappedStores [.Tuple [.Name x sp, .Name y yp] k' tp] (.Tuple [a, .List [] mp] k xp) (S.env c) = pure (some [x, y]))
    (hs : ∀ env, starEach [a, .List [] mp] env = (false, eval a env) :: starEach [.List [] mp] env)
    (h3 : ∀ l, (∀ p ∈ c.news, p.1 < l) → Ex S (c.led ((l, lst [] 0) :: c.news)) ((x, .int i) :: (y, .ex (.ref l)) :: Γ) rest R) :
    Ex S c Γ (.Assign [.Tuple [.Name x sp, .Name y yp] k' tp] (.Tuple [a, .List [] mp] k xp) pos :: rest) R := fun m s Q E O G F N kk =>
  wpAny_execs_cons (Assign_Tuple_swapped (names := [x, y]) (Tuple_ (args_cons (h m s _ _ G F N fun v _ _ F1 N1 hv => args_cons (EvN.nil m _ _ _ G F1 N1 fun u nw h' tk' F2 N2 ⟨l, us, e1, e2, hl, hI⟩ => args_nil (by
    subst e1 e2
    cases hI
    refine kup_newTuple F2 N2 (fun D h' F3 N3 l3 => ?_) (Nat.le_of_ble_eq_true rfl)
    refine unpackItemsN_ (items := #[v, .ref l]) F3 N3 ⟨_, (N3 _ (.head _)).1, rfl, 0, rfl⟩ ok.hh rfl fun h4 F4 N4 => ?_
    refine assignInOrder_cons (bindName_ (storeX_L F4 (fun p hp => N4 p (.tail _ hp)) (fun h5 F5 N5 => ?_) ok.hk (okN_1 hy)))
    refine assignInOrder_cons (bindName_ (storeX_L F5 N5 (fun h6 F6 N6 => ?_) ok.hk (okN_1 hx)))
    refine assignInOrder_nil (h3 l hl _ _ _ _ O ?_ F6 N6 kk)
    exact ((GOk.flat _ G hf).set (r := .ex (.ref l)) rfl).set (r := .int i) hv)) rfl) (hs _))) (h1 _) h2)
-- an item is put at a list's end
theorem Ex.append {l : Addr} {vs : List Value} {cap : Nat} {nw0 : Led} {i : Int} (ok : Ok S c n) (hc : c.news = (l, lst vs cap) :: nw0) (hl : ∀ p ∈ nw0, p.1 < l) (hf : Γ.all (fun p => p.2.flat) = true) (hz : vs.length ≤ 100) (h1 : Ev (S.env c) c Γ (.Name x xp) (.ex (.ref l))) (h : Ev (S.env c) c Γ e (.int i))
    (hs : ∀ env, starEach [e] env = (false, eval e env) :: starEach [] env) (hM : IsMeth (S.env c) x xp (Str.ofString "append") yp [e] mp) (hi : interactive (S.env c) = false)
    (h2 : ∀ env, swapsWith (.Call (.Attribute (.Name x xp) (Str.ofString "append") yp) [e] [] mp) none pos.line env = pure false)
    (h3 : ∀ t, Ex S (c.led ((l, lst (vs ++ [.int i t]) (cap + 1)) :: nw0)) Γ rest R) :
    Ex S c Γ (.Expr (.Call (.Attribute (.Name x xp) (Str.ofString "append") yp) [e] [] mp) pos :: rest) R := fun m s Q E O G F N kk => by
  obtain ⟨pl, hM⟩ := hM
  exact wpAny_execs_cons (wpAny_Expr_any (MethodCall_ (pl := pl) (h1 m s _ _ G F N fun v _ _ F1 N1 hv => by
    cases hv
    refine listMethod_K N1 (its := vs.toArray) (n := cap) (by rw [hc]; exact .head _) PySem.F.slot_list_append PySem.F.type_list_append ?_
    refine callWith_method1 (args_cons (h m _ _ _ G F1 N1 fun v h' tk' F2 N2 ⟨t, hv⟩ => args_nil ?_) (hs _)) (hs _) rfl
    subst hv
    rw [hc] at N2
    refine append_K F2 N2 (.head fun p hp => Nat.ne_of_lt (hl p hp)) (fun h3' F3 N3 => ?_) (by rw [sizeLine_eq, List.size_toArray]; (first | lia | omega))
    rw [List.push_toArray] at N3
    exact h3 t m _ _ _ O (GOk.flat _ G hf) F3 N3 kk) hM) hi (h2 _))
-- a list is turned round
theorem Ex.reverse {l : Addr} {vs : List Value} {cap : Nat} {nw0 : Led} (ok : Ok S c n) (hc : c.news = (l, lst vs cap) :: nw0) (hl : ∀ p ∈ nw0, p.1 < l) (hf : Γ.all (fun p => p.2.flat) = true) (hz : vs.length ≤ 100) (h1 : Ev (S.env c) c Γ (.Name x xp) (.ex (.ref l)))
    (hM : IsMeth (S.env c) x xp (Str.ofString "reverse") yp [] mp) (hi : interactive (S.env c) = false) (h2 : ∀ env, swapsWith (.Call (.Attribute (.Name x xp) (Str.ofString "reverse") yp) [] [] mp) none pos.line env = pure false)
    (h3 : Ex S (c.led ((l, lst vs.reverse cap) :: nw0)) Γ rest R) :
    Ex S c Γ (.Expr (.Call (.Attribute (.Name x xp) (Str.ofString "reverse") yp) [] [] mp) pos :: rest) R := fun m s Q E O G F N kk => by
  obtain ⟨pl, hM⟩ := hM
  exact wpAny_execs_cons (wpAny_Expr_any (MethodCall_ (pl := pl) (h1 m s _ _ G F N fun v _ _ F1 N1 hv => by
    cases hv
    refine kl_method N1 (its := vs.toArray) (n := cap) (by rw [hc]; exact .head _) PySem.F.slot_list_reverse PySem.F.type_list_reverse ?_
    refine callWith_method0 ?_
    rw [hc] at N1
    refine kl_reverse (l := vs.reverse) F1 N1 rfl (.head fun p hp => Nat.ne_of_lt (hl p hp)) (by rw [sizeLine_eq]; show vs.length ≤ _; (first | lia | omega)) (fun h' F2 N2 => ?_)
    exact h3 m _ _ _ O (GOk.flat _ G hf) F2 N2 kk) hM) hi (h2 _))
-- a list of octets made into bytes
theorem Ev.bytesN {ks : List Int} (ok : Ok S c n) (hb : okN S (Str.ofString "bytes") .globalImplicit = true) (hk : ∀ k ∈ ks, 0 ≤ k ∧ k < 256) (hz : ks.length ≤ 100) (h : EvN (S.env c) c Γ e fun v nw => (∀ p ∈ c.news, p ∈ nw) ∧ ∃ l vs cap, v = .ref l ∧ (l, lst vs cap) ∈ nw ∧ IntsAre vs ks)
    (hs : ∀ env, starEach [e] env = (false, eval e env) :: starEach [] env := by intro _; rfl) : Ev (S.env c) c Γ (.Call (.Name (Str.ofString "bytes") xp) [e] [] pos) (.byt (ks.map fun k => k.toNat.toUInt8)) := fun m s Q E G F N k =>
  Call_ (Ev.blt ok hb (g_bytes _) b_bytes (by decide) m s _ _ G F N fun v _ _ F1 N1 hv => by
    cases hv
    refine PyProof.Rows.callWith_type1 (args_cons (h m _ _ _ G F1 N1 fun v nw h' tk' F2 N2 ⟨hsub, l, vs, cap, e1, hm, hI⟩ => args_nil ?_) (hs _)) (hs _) rfl
    subst e1
    exact bytes_K F2 (news := c.news) (fun p hp => N2 p (hsub p hp)) ⟨_, (N2 _ hm).1, rfl, _, rfl⟩ hI hk (by rw [hI.length, sizeLine_eq]; (first | lia | omega)) ok.hh fun h3 t k3 F3 N3 _ => k _ h3 k3 F3 N3 ⟨t, rfl⟩)
theorem EvN.at_ {l : Addr} {vs : List Value} {cap : Nat} {ks : List Int} (h : Ev (S.env c) c Γ e (.ex (.ref l))) (hm : (l, lst vs cap) ∈ c.news) (hI : IntsAre vs ks) : EvN (S.env c) c Γ e fun v nw => (∀ p ∈ c.news, p ∈ nw) ∧ ∃ l vs cap, v = .ref l ∧ (l, lst vs cap) ∈ nw ∧ IntsAre vs ks := fun m s Q E G F N k =>
  h m s _ _ G F N fun v h' tk' F1 N1 hv => by
    cases hv
    exact k _ c.news h' tk' F1 N1 ⟨fun _ h => h, l, vs, cap, rfl, hm, hI⟩
theorem g_abs (P : Params) : nsIn (Mine.KF P) mainGlobals (Str.ofString "abs") = some none := by k_is
theorem b_abs : bootBuiltins (Str.ofString "abs") = some (.builtin "abs") := by boot_fast
theorem Ev.abs {i : Int} (ok : Ok S c n) (hb : okN S (Str.ofString "abs") .globalImplicit = true) (h : Ev (S.env c) c Γ e (.int i)) (hs : ∀ env, starEach [e] env = (false, eval e env) :: starEach [] env := by intro _; rfl) : Ev (S.env c) c Γ (.Call (.Name (Str.ofString "abs") xp) [e] [] pos) (.int (if i < 0 then -i else i)) := by
  refine Ev.bcall ok hb (g_abs _) b_abs (by decide) (.cons h .nil hs) fun vs m s Q E hvs F N k => ?_
  cases hvs with
  | cons h1 h2 =>
    cases h2
    obtain ⟨_, rfl⟩ := h1
    exact call_abs_int fun u tk => k _ tk ⟨u, rfl⟩
end
-- handed back, what was made is dropped
theorem Ex.retW {S : Fs} {c : Act} {Γ : Gam} {e : PySem.Expr} {r : Rv} {pos : Pos} {rest : List Stmt} {nw : Led} (h : Ev (S.env (c.led nw)) (c.led nw) Γ e r) (hs : ∀ p ∈ c.news, p ∈ nw) (hf : r.flat = true) : Ex S (c.led nw) Γ (.Return (some e) pos :: rest) (Ret c r) := fun m s Q E O G F N k =>
  wpAny_execs_cons (wpAny_Return_some (h m s _ _ G F N fun v h' tk' F1 N1 hv => k (.ret v) h' tk' m F1 ⟨v, rfl, fun p hp => N1 p (hs p hp), Rv.ok_flat (c := c.led nw) (nw := c.news) hf hv⟩))
-- a turn's end, where the ledger changes too
noncomputable def TurnL (c : Act) {σ : Type} (Ld : σ → Led) (Γs : σ → Gam) (I : σ → Prop) (μ : σ → Nat) (x : σ) (f : Flow) (m : Str → Option Value) (h : Heap) : Prop := f = .next ∧ ∃ y, μ y < μ x ∧ I y ∧ News c.h₀ c.L h (Ld y) ∧ GOk (c.led (Ld y)) (Γs y) m
theorem Ex.whileL {σ : Type} {S : Fs} {c : Act} {Γ : Gam} {e : PySem.Expr} {body rest : List Stmt} {pos : Pos} {R : Flow → (Str → Option Value) → Heap → Prop} (Ld : σ → Led) (Γs : σ → Gam) (I : σ → Prop) (μ : σ → Nat) (t : σ → Bool) (c₀ : σ) (hG : GSub Γ (Γs c₀)) (hI : I c₀)
    (ht : ∀ x, I x → Tv (S.env (c.led (Ld x))) (c.led (Ld x)) (Γs x) e (t x)) (hb : ∀ x, I x → t x = true → Ex S (c.led (Ld x)) (Γs x) body (TurnL c Ld Γs I μ x))
    (he : ∀ x, I x → t x = false → Ex S (c.led (Ld x)) (Γs x) rest R) : Ex S (c.led (Ld c₀)) Γ (.While e body [] pos :: rest) R := fun m s Q E O G F N k => by
  refine wpAny_execs_cons (While_inv2 (fun n m nx => ∃ x, nx = Ld x ∧ μ x = n ∧ I x ∧ GOk (c.led (Ld x)) (Γs x) m) F N ⟨c₀, rfl, rfl, hI, G.sub hG⟩ ?_ O)
  rintro n m₁ nx h tk F₁ N₁ ⟨x, rfl, rfl, hx, G₁⟩
  refine ht x hx m₁ _ _ _ _ rfl G₁ F₁ N₁ fun h2 tk2 F2 N2 => ?_
  cases htx : t x with
  | false => simp only [Bool.false_eq_true, if_false]; exact he x hx htx m₁ _ _ _ O G₁ F2 N2 k
  | true =>
    simp only [if_true]
    refine hb x hx htx m₁ _ _ _ O G₁ F2 N2 fun f h3 tk3 m3 F3 hr => ?_
    obtain ⟨rfl, y, h4, h5, N3, h6⟩ := hr
    exact ⟨h3, tk3, m3, Ld y, μ y, rfl, F3, N3, h4, y, rfl, rfl, h5, h6⟩
-- the digits' codes, the last digit first
noncomputable def lsdN : Nat → Nat → List Int
  | 0, m => [48 + (m : Int)]
  | n + 1, m => if m ≤ 9 then [48 + (m : Int)] else (48 + (m : Int).fmod 10) :: lsdN n (m / 10)
theorem lsdN_more : ∀ n k m, m ≤ n → m ≤ k → lsdN n m = lsdN k m := by
  intro n
  induction n with
  | zero =>
    intro k m h _
    cases k with
    | zero => rfl
    | succ k => rw [lsdN, lsdN, if_pos (Nat.le_trans h (Nat.zero_le _))]
  | succ n ih =>
    intro k m h h2
    cases k with
    | zero => rw [lsdN, lsdN, if_pos (Nat.le_trans h2 (Nat.zero_le _))]
    | succ k =>
      rw [lsdN, lsdN]
      by_cases hk : m ≤ 9
      · rw [if_pos hk, if_pos hk]
      · rw [if_neg hk, if_neg hk, ih k (m / 10) (by lia) (by lia)]
noncomputable def lsd (m : Nat) : List Int := lsdN m m
theorem lsd_small {m : Nat} (h : m ≤ 9) : lsd m = [48 + (m : Int)] := by
  cases m with
  | zero => rfl
  | succ m => rw [lsd, lsdN, if_pos h]
theorem lsd_big {m : Nat} (h : 9 < m) : lsd m = (48 + (m : Int).fmod 10) :: lsd (m / 10) := by
  obtain ⟨j, rfl⟩ : ∃ j, m = j + 1 := ⟨m - 1, by lia⟩
  rw [lsd, lsdN, if_neg (Nat.not_le_of_lt h), lsdN_more j ((j + 1) / 10) _ (by lia) (Nat.le_refl _)]; rfl
theorem lsd_fm {m : Nat} (h : m ≤ 9) : 48 + (m : Int).fmod 10 = 48 + (m : Int) := by rw [Int.fmod_eq_emod_of_nonneg _ (by decide)]; (first | lia | omega)
theorem fd_nat (m : Nat) : (m : Int).fdiv 10 = ((m / 10 : Nat) : Int) := by rw [Int.fdiv_eq_ediv_of_nonneg _ (by decide)]; (first | lia | omega)
theorem lsd_len (k m : Nat) (h : m < 10 ^ k) : (lsd m).length ≤ k + 1 := by
  induction k generalizing m with
  | zero => rw [lsd_small (by lia)]; exact Nat.le_refl _
  | succ k ih =>
    by_cases h9 : m ≤ 9
    · rw [lsd_small h9]; exact Nat.succ_le_succ (Nat.zero_le _)
    · rw [lsd_big (Nat.lt_of_not_le h9)]
      exact Nat.succ_le_succ (ih (m / 10) (by rw [Nat.pow_succ] at h; lia))
theorem lsd_byte (m : Nat) : ∀ k ∈ lsd m, 0 ≤ k ∧ k < 256 := by
  induction m using Nat.strongRecOn with
  | ind m ih =>
    intro k hk
    by_cases h9 : m ≤ 9
    · rw [lsd_small h9] at hk
      have := List.mem_singleton.mp hk
      (first | lia | omega)
    · rw [lsd_big (by (first | lia | omega)), Int.fmod_eq_emod_of_nonneg _ (by decide)] at hk
      rcases List.mem_cons.mp hk with rfl | hk
      · (first | lia | omega)
      · exact ih (m / 10) (by (first | lia | omega)) k hk
noncomputable def digs (n : Int) : List Int := (if n < 0 then [45] else []) ++ (lsd n.natAbs).reverse
noncomputable def digB (n : Int) : List UInt8 := (digs n).map fun k => k.toNat.toUInt8
theorem digs_byte (n : Int) : ∀ k ∈ digs n, 0 ≤ k ∧ k < 256 := by
  intro k hk
  rcases List.mem_append.mp hk with h | h
  · split at h
    · have := List.mem_singleton.mp h; (first | lia | omega)
    · cases h
  · exact lsd_byte _ k (List.mem_reverse.mp h)
theorem abs_nat (n : Int) : (if n < 0 then -n else n) = (n.natAbs : Int) := by split <;> (first | lia | omega)
section
variable {S : Fs} {c : Act} {Γ Γ' : Gam} {n : Nat} {pos xp yp tp : Pos} {a b e : PySem.Expr} {r ra rb r1 r2 : Rv} {k : Nat} {rest : List Stmt}
theorem number_text_r {i : Int} (hi : i.natAbs < 10 ^ 40) : GivesR 1 198 [.int i] (.byt (digB i)) := by
  refine givesR_fn (lev := 0) (xs := [Str.ofString "n"]) (fun P => by exact rfl) (fun P => by k_is) (fun _ s => BindsTo.of_eq rfl) (by decide) rfl rfl rfl (by decide) ?_
  intro c ok
  have hL := lsd_len 40 i.natAbs hi
  refine Ex.pairList ok rfl rfl rfl (Ev.abs ok rfl (Ev.loc ok rfl)) (fun _ => rfl) (by with_unfolding_all rfl) (fun _ => rfl) fun l hl => ?_
  rw [abs_nat]
  refine Ex.whileL (σ := Nat × List Int × List Value × Nat) (c := c) (fun p => (l, lst p.2.2.1 p.2.2.2) :: c.news) (fun p => [(Str.ofString "left", .int p.1), (Str.ofString "found", .ex (.ref l)), (Str.ofString "n", .int i)]) (fun p => IntsAre p.2.2.1 p.2.1 ∧ p.2.1 ++ lsd p.1 = lsd i.natAbs) (fun p => p.1) (fun p => decide ((p.1 : Int) > 9)) (i.natAbs, [], [], 0)
    (.cons rfl (.cons rfl (.cons rfl .nil))) ⟨.nil, rfl⟩ ?_ ?_ ?_
  · rintro ⟨left, ks, vs, cap⟩ _
    exact Tv.cmp (Ev.loc (ok.led _) rfl) Ev.cint Bn.gt
  · rintro ⟨left, ks, vs, cap⟩ ⟨hI, hp⟩ ht
    have h9 : 9 < left := by have := of_decide_eq_true ht; dsimp only at this; (first | lia | omega)
    dsimp only at hI hp
    have hz : ks.length ≤ 41 := by have := congrArg List.length hp; rw [List.length_append] at this; (first | lia | omega)
    refine Ex.append (ok.led _) rfl hl rfl (by rw [hI.length]; (first | lia | omega)) (Ev.loc (ok.led _) rfl) (Ev.bin Ev.cint (Ev.bin (Ev.loc (ok.led _) rfl) Ev.cint (Bn.mod (by decide))) Bn.add) (fun _ => rfl) ⟨_, rfl⟩ rfl (fun _ => rfl) fun t => ?_
    refine Ex.seq (Es.assign ((ok.led _).led _) rfl (Ev.int_of (fd_nat left) (Ev.bin (Ev.loc ((ok.led _).led _) rfl) Ev.cint (Bn.fdiv (by decide) (by decide))))) (Ex.nil fun m h G N => ⟨rfl, (left / 10, ks ++ [48 + (left : Int).fmod 10], _, _), ?_, ⟨IntsAre.append hI (.cons _ _ .nil), ?_⟩, N, G.sub (.cons rfl (.cons rfl (.cons rfl .nil)))⟩)
    · dsimp only; (first | lia | omega)
    · rw [← hp, lsd_big h9, List.append_assoc]; rfl
  · rintro ⟨left, ks, vs, cap⟩ ⟨hI, hp⟩ ht
    have h9 : left ≤ 9 := by have := of_decide_eq_false ht; dsimp only at this; (first | lia | omega)
    dsimp only at hI hp
    have hz : ks.length ≤ 41 := by have := congrArg List.length hp; rw [List.length_append] at this; (first | lia | omega)
    rw [lsd_small h9] at hp
    refine Ex.append (ok.led _) rfl hl rfl (by rw [hI.length]; (first | lia | omega)) (Ev.loc (ok.led _) rfl) (Ev.bin Ev.cint (Ev.loc (ok.led _) rfl) Bn.add) (fun _ => rfl) ⟨_, rfl⟩ rfl (fun _ => rfl) fun t => ?_
    have hI2 : IntsAre (vs ++ [.int (48 + (left : Int)) t]) (lsd i.natAbs) := hp ▸ IntsAre.append hI (.cons _ _ .nil)
    have hz2 : (vs ++ [Value.int (48 + (left : Int)) t]).length ≤ 41 := by rw [hI2.length]; exact hL
    generalize vs ++ [Value.int (48 + (left : Int)) t] = vs2 at *
    have hB : ∀ k ∈ (if i < 0 then [45] else []) ++ (lsd i.natAbs).reverse, 0 ≤ k ∧ k < 256 := digs_byte i
    rw [digB, digs]
    generalize lsd i.natAbs = ks2 at *
    have hD : (ks2 ++ if i < 0 then [45] else []).reverse = (if i < 0 then [45] else []) ++ ks2.reverse := by rw [List.reverse_append]; split <;> rfl
    refine Ex.seqL (R₁ := fun f m h => f = .next ∧ ∃ vs3 cap3, News c.h₀ c.L h ((l, lst vs3 cap3) :: c.news) ∧ GOk (c.led ((l, lst vs3 cap3) :: c.news)) [(Str.ofString "found", .ex (.ref l))] m ∧ IntsAre vs3 (ks2 ++ if i < 0 then [45] else []))
      (Es.if_ (t := decide (i < 0)) (Tv.cmp (Ev.loc (ok.led _) rfl) Ev.cint Bn.lt) (fun h => ?_) (fun h => ?_)) ?_
    · refine Ex.append (ok.led _) rfl hl rfl (by (first | lia | omega)) (Ev.loc (ok.led _) rfl) Ev.cint (fun _ => rfl) ⟨_, rfl⟩ rfl (fun _ => rfl) fun t => Ex.nil fun m h' G N => ⟨rfl, _, _, N, G.sub (.cons rfl .nil), ?_⟩
      rw [if_pos (of_decide_eq_true h)]
      exact IntsAre.append hI2 (.cons _ _ .nil)
    · refine Ex.nil fun m h' G N => ⟨rfl, _, _, N, G.sub (.cons rfl .nil), ?_⟩
      rw [if_neg (of_decide_eq_false h), List.append_nil]
      exact hI2
    · rintro f m h ⟨rfl, vs3, cap3, N3, G3, hI3⟩
      refine ⟨rfl, _, _, N3, G3, ?_⟩
      have hz3 : vs3.length ≤ 50 := by rw [hI3.length, List.length_append]; split <;> simp <;> (first | lia | omega)
      refine Ex.reverse (ok.led _) rfl hl rfl (by (first | lia | omega)) (Ev.loc (ok.led _) rfl) ⟨_, rfl⟩ rfl (fun _ => rfl) ?_
      refine Ex.retW (c := c) (nw := (l, lst vs3.reverse cap3) :: c.news) ?_ (fun p hp => .tail _ hp) rfl
      refine Ev.bytesN (ok.led _) rfl hB ?_ (EvN.at_ (Ev.loc (ok.led _) rfl) (.head _) (hD ▸ PyProof.Rows.IntsAre.reverse hI3))
      rw [List.length_append, List.length_reverse]; split <;> simp <;> (first | lia | omega)
end
section
variable {S : Fs} {c : Act} {Γ Γ' : Gam} {n : Nat} {x : Str} {pos xp yp tp sp : Pos} {a b e : PySem.Expr} {r ra rb r1 r2 : Rv} {k : Nat} {rest : List Stmt}
theorem Tv.eqNil {l : Addr} {vs : List Value} {cap : Nat} {ks : List Int} (ok : Ok S c 4) (hm : (l, lst vs cap) ∈ c.news) (hI : IntsAre vs ks) (h : Ev (S.env c) c Γ a (.ex (.ref l))) (hb : behindInMarks .Eq (.List [] sp) = false := by rfl) : Tv (S.env c) c Γ (.Compare a [.Eq] [.List [] sp] pos) (decide (ks = [])) := fun m s wh Q E hw G F N k =>
  wpAny_isTrue_Compare1 (h m s _ _ G F N fun v _ _ F1 N1 hv => EvN.nil m _ _ _ G F1 N1 fun u nw h' tk' F2 N2 ⟨l2, us, e1, e2, hl, hI2⟩ => by
    cases hv
    subst e1 e2
    refine eq_intsK ⟨_, (N2 _ (.tail _ hm)).1, rfl, _, rfl⟩ hI ⟨_, (N2 _ (.head _)).1, rfl, _, rfl⟩ hI2 (by have := ok.hu; (first | lia | omega)) (wpAny_truthy_bool ?_)
    exact k h' tk' F2 fun p hp => N2 p (.tail _ hp)) hb
theorem EvN.rev {l : Addr} {vs : List Value} {cap : Nat} {ks : List Int} (hm : (l, lst vs cap) ∈ c.news) (hI : IntsAre vs ks) (hz : ks.length ≤ 100) (h : Ev (S.env c) c Γ (.Name x xp) (.ex (.ref l))) (he : Ev (S.env c) c Γ e (.int (-1)))
    (hs : ∀ o i, ∃ ops, subscripted (.Slice none none (some e) sp) false o i = operate ops (getItem o i)) (hg : ∀ o r, letTemporaryGo (.Name x xp) o r = pure ()) : EvN (S.env c) c Γ (.Subscript (.Name x xp) (.Slice none none (some e) sp) pos) (NewL c.news ks.reverse) := fun m s Q E G F N k =>
  Subscript_ (h m s _ _ G F N fun v _ _ F1 N1 hv => by
    cases hv
    refine wpAny_Slice (evalPart_none_step (evalPart_none_step (evalPart_some_step (he m _ _ _ G F1 N1 fun u h2 tk2 F2 N2 ⟨t, hu⟩ => ?_))))
    subst hu
    obtain ⟨ops, hs⟩ := hs (.ref l) (.ref h2.objs.size)
    exact krv_ints F2 N2 ⟨_, (N2 _ hm).1, rfl, _, rfl⟩ (IsPart.int _ _) hI (fun D ws h3 F3 N3 hD hW _ => k _ _ h3 _ F3 N3 ⟨D, ws, rfl, rfl, hD, hW⟩) hs (hg _) (by rw [List.size_toArray, hI.length, sizeLine_eq]; (first | lia | omega)))
theorem EvN.add {ks js : List Int} (h1 : EvN (S.env c) c Γ a (NewL c.news ks)) (h2 : ∀ v nw, NewL c.news ks v nw → EvN (S.env (c.led nw)) (c.led nw) Γ b (NewL nw js)) (hf : Γ.all (fun p => p.2.flat) = true) (hz : ks.length + js.length ≤ 200) :
    EvN (S.env c) c Γ (.BinOp a .Add b pos) fun v nw => (∀ p ∈ c.news, p ∈ nw) ∧ ∃ l vs cap, v = .ref l ∧ (l, lst vs cap) ∈ nw ∧ IntsAre vs (ks ++ js) := fun m s Q E G F N k =>
  wpAny_BinOp (h1 m s _ _ G F N fun v nw h' tk' F1 N1 hP => h2 v nw hP m _ _ _ (GOk.flat _ G hf) F1 N1 fun u nw2 h2' tk2 F2 N2 hP2 => by
    obtain ⟨l, vs, rfl, rfl, hl, hI⟩ := hP
    obtain ⟨l2, ws, rfl, rfl, hl2, hJ⟩ := hP2
    exact kmk_add_ints F2 N2 ⟨_, (N2 _ (.tail _ (.head _))).1, rfl, _, rfl⟩ ⟨_, (N2 _ (.head _)).1, rfl, _, rfl⟩ hI hJ (fun D us h3 F3 N3 hD hU => k _ _ h3 _ F3 N3 ⟨fun p hp => .tail _ (.tail _ (.tail _ hp)), D, us, 0, rfl, .head _, hU⟩) (by rw [sizeLine_eq]; (first | lia | omega)))
theorem law_digits_r {i : Int} (hi : i.natAbs < 10 ^ 40) : GivesR 5 261 [.int i] (.byt (digB i)) := by
  refine givesR_fn (lev := 4) (xs := [Str.ofString "n"]) (fun P => by exact rfl) (fun P => by k_is) (fun _ s => BindsTo.of_eq rfl) (by decide) rfl rfl rfl (by decide) ?_
  intro c ok
  have hL := lsd_len 40 i.natAbs hi
  have hB := digs_byte i
  refine Ex.pairList ok rfl rfl rfl (Ev.abs ok rfl (Ev.loc ok rfl)) (fun _ => rfl) (by with_unfolding_all rfl) (fun _ => rfl) fun l hl => ?_
  rw [abs_nat]
  refine Ex.whileL (σ := Nat × List Int × List Value × Nat) (c := c) (fun p => (l, lst p.2.2.1 p.2.2.2) :: c.news) (fun p => [(Str.ofString "left", .int p.1), (Str.ofString "found", .ex (.ref l)), (Str.ofString "n", .int i)])
    (fun p => IntsAre p.2.2.1 p.2.1 ∧ p.2.1.length ≤ 42 ∧ (((0 < p.1 ∨ p.2.1 = []) ∧ p.2.1 ++ lsd p.1 = lsd i.natAbs) ∨ (p.1 = 0 ∧ p.2.1 ≠ [] ∧ p.2.1 = lsd i.natAbs))) (fun p => p.1 + if p.2.1 = [] then 1 else 0) (fun p => decide ((p.1 : Int) > 0) || decide (p.2.1 = [])) (i.natAbs, [], [], 0)
    (.cons rfl (.cons rfl (.cons rfl .nil))) ⟨.nil, Nat.zero_le _, .inl ⟨.inr rfl, rfl⟩⟩ ?_ ?_ ?_
  · rintro ⟨left, ks, vs, cap⟩ ⟨hI, _⟩
    exact Tv.or (Tv.cmp (Ev.loc (ok.led _) rfl) Ev.cint Bn.gt) fun _ => Tv.of (Bool.or_false _) (Tv.or (Tv.eqNil (ok.led _) (.head _) hI (Ev.loc (ok.led _) rfl)) fun _ => Tv.or_nil)
  · rintro ⟨left, ks, vs, cap⟩ ⟨hI, hz, hp⟩ ht
    dsimp only at hI hp hz
    have hp : (0 < left ∨ ks = []) ∧ ks ++ lsd left = lsd i.natAbs := by
      rcases hp with hp | ⟨h0, h1, _⟩
      · exact hp
      · dsimp only at ht
        rw [decide_eq_false h1, decide_eq_false (by (first | lia | omega))] at ht
        cases ht
    have hz2 : ks.length + 1 ≤ 41 := by
      have h1 := congrArg List.length hp.2
      have h2 : 1 ≤ (lsd left).length := by
        by_cases h : left ≤ 9
        · rw [lsd_small h]; exact Nat.le_refl _
        · rw [lsd_big (by (first | lia | omega))]; exact Nat.succ_le_succ (Nat.zero_le _)
      rw [List.length_append] at h1
      (first | lia | omega)
    refine Ex.append (ok.led _) rfl hl rfl (by rw [hI.length]; (first | lia | omega)) (Ev.loc (ok.led _) rfl) (Ev.bin Ev.cint (Ev.bin (Ev.loc (ok.led _) rfl) Ev.cint (Bn.mod (by decide))) Bn.add) (fun _ => rfl) ⟨_, rfl⟩ rfl (fun _ => rfl) fun t => ?_
    refine Ex.seq (Es.assign ((ok.led _).led _) rfl (Ev.int_of (fd_nat left) (Ev.bin (Ev.loc ((ok.led _).led _) rfl) Ev.cint (Bn.fdiv (by decide) (by decide))))) (Ex.nil fun m h G N => ⟨rfl, (left / 10, ks ++ [48 + (left : Int).fmod 10], _, _), ?_, ⟨IntsAre.append hI (.cons _ _ .nil), ?_, ?_⟩, N, G.sub (.cons rfl (.cons rfl (.cons rfl .nil)))⟩)
    · dsimp only
      rw [if_neg (by simp)]
      rcases hp.1 with h | h
      · (first | lia | omega)
      · rw [if_pos h]; (first | lia | omega)
    · rw [List.length_append]; exact Nat.le_trans hz2 (by decide)
    · dsimp only
      by_cases h9 : left ≤ 9
      · refine .inr ⟨by (first | lia | omega), by simp, ?_⟩
        rw [← hp.2, lsd_small h9, lsd_fm h9]
      · refine .inl ⟨.inl (by (first | lia | omega)), ?_⟩
        rw [← hp.2, lsd_big (by (first | lia | omega) : 9 < left), List.append_assoc]; rfl
  · rintro ⟨left, ks, vs, cap⟩ ⟨hI, hz, hp⟩ ht
    dsimp only at hI hp hz ht
    have h0 := (Bool.or_eq_false_iff.mp ht).1
    have h1 := of_decide_eq_false (Bool.or_eq_false_iff.mp ht).2
    have h0 := of_decide_eq_false h0
    have hp : ks = lsd i.natAbs := by
      rcases hp with ⟨hp, _⟩ | hp
      · rcases hp with hp | hp
        · (first | lia | omega)
        · exact absurd hp h1
      · exact hp.2.2
    rw [digB, digs]
    rw [digs, ← hp] at hB
    rw [← hp]
    refine Ex.retW (c := c) (nw := (l, lst vs cap) :: c.news) ?_ (fun p hp => .tail _ hp) rfl
    refine Ev.bytesN (ok.led _) rfl hB ?_ (EvN.add (EvN.ite (P := NewL _ (if i < 0 then [45] else [])) (t := decide (i < 0)) (Tv.cmp (Ev.loc (ok.led _) rfl) Ev.cint Bn.lt) (fun h => ?_) fun h => ?_) (fun v nw hN => ?_) rfl ?_)
    · rw [List.length_append, List.length_reverse]; split <;> simp <;> (first | lia | omega)
    · rw [if_pos (of_decide_eq_true h)]; exact EvN.one Ev.cint
    · rw [if_neg (of_decide_eq_false h)]; exact EvN.nil
    · obtain ⟨l2, us, rfl, rfl, _⟩ := hN
      exact EvN.rev (.tail _ (.head _)) hI (by (first | lia | omega)) (Ev.loc ((ok.led _).led _) rfl) (Ev.neg Ev.cint) (fun _ _ => ⟨_, by with_unfolding_all rfl⟩) fun _ _ => rfl
    · rw [List.length_reverse]; split <;> simp <;> (first | lia | omega)
end
noncomputable def D.ok : D → Prop
  | .num n => n.natAbs < 10 ^ 40
  | .text x => x ∈ textsL
  | _ => True
noncomputable def D.textOf : D → List UInt8
  | .text x => x
  | _ => []
-- the number due
noncomputable def D.due (w : Int) : D → Option Int
  | .num n => some n
  | .text x => (numOfText x).map fun i => wrapZ i w
  | _ => none
-- the text due
noncomputable def D.txt : D → Option (List UInt8)
  | .num n => some (digB n)
  | .text x => some x
  | _ => none
section
variable {S : Fs} {c : Act} {Γ Γ' : Gam} {n : Nat} {x : Str} {pos xp yp tp sp : Pos} {a b e : PySem.Expr} {r ra rb r1 r2 : Rv} {k : Nat} {rest : List Stmt} {d : D}
theorem g_tib (P : Params) : nsIn (Mine.KF P) mainGlobals (Str.ofString "text_in_base") = some (some (.ref 184)) := by k_is
theorem k_tib (P : Params) : keepIn (Mine.KF P) (.ref 184) = true := by k_is
theorem g_stn (P : Params) : nsIn (Mine.KF P) mainGlobals (Str.ofString "str_to_number") = some (some (.ref 177)) := by k_is
theorem k_stn (P : Params) : keepIn (Mine.KF P) (.ref 177) = true := by k_is
theorem g_isn (P : Params) : nsIn (Mine.KF P) mainGlobals (Str.ofString "is_number") = some (some (.ref 100)) := by k_is
theorem k_isn (P : Params) : keepIn (Mine.KF P) (.ref 100) = true := by k_is
theorem g_ntx (P : Params) : nsIn (Mine.KF P) mainGlobals (Str.ofString "number_text") = some (some (.ref 198)) := by k_is
theorem k_ntx (P : Params) : keepIn (Mine.KF P) (.ref 198) = true := by k_is
theorem Ev.dat_byt (h : isiB d (.type "bytes") = true) (h1 : Ev (S.env c) c Γ e (.dat d)) : Ev (S.env c) c Γ e (.byt d.textOf) := fun m s Q E G F N k => h1 m s _ _ G F N fun v h' tk' F1 N1 hv => k v h' tk' F1 N1 (by
  cases d with
  | text x => exact hv
  | bool b => exact ft h
  | nil => exact ft h
  | num n => exact ft h
  | light _ => exact ft h
  | heap _ => exact ft h)
theorem Ev.dat_int {i : Int} (h : d = .num i) (h1 : Ev (S.env c) c Γ e (.dat d)) : Ev (S.env c) c Γ e (.int i) := fun m s Q E G F N k => h1 m s _ _ G F N fun v h' tk' F1 N1 hv => k v h' tk' F1 N1 (by
  subst h; exact hv)
theorem Ev.txt_some {y : List UInt8} {o : Option (List UInt8)} (q : some y = o) (h : Ev (S.env c) c Γ e (.byt y)) : Ev (S.env c) c Γ e (.txt o) := q ▸ h
theorem Ev.none_txt {o : Option (List UInt8)} (q : none = o) (h : Ev (S.env c) c Γ e (.ex .none)) : Ev (S.env c) c Γ e (.txt o) := q ▸ h
theorem str_to_number_r {x : List UInt8} {w : Int} (hx : x.length ≤ 8) (hw2 : 2 ≤ w) (hw : w ≤ 71) : GivesR 5 177 [.byt x, .lim w] (.num ((tib x).map fun i => wrapZ i w)) := by
  refine givesR_fn (lev := 4) (xs := [Str.ofString "text", Str.ofString "limits"]) (fun P => by exact rfl) (fun P => by k_is) (fun _ _ s => BindsTo.of_eq rfl) (by decide) rfl rfl rfl (by decide) ?_
  intro c ok
  exact Ex.ret (Ev.call ok rfl (g_tib _) (k_tib _) (text_in_base_r hx hw2 hw) (by decide) (.cons (Ev.loc ok rfl) (.cons Ev.cint (.cons (Ev.loc ok rfl) .nil))))
theorem isNum_of (h : d.isNum = true) : ∃ i, d = .num i := by
  cases d <;> first | exact ⟨_, rfl⟩ | exact ft h | exact ff h
theorem isText_of (h : isiB d (.type "bytes") = true) : ∃ x, d = .text x := by
  cases d <;> first | exact ⟨_, rfl⟩ | exact ft h | exact ff h
theorem due_none {w : Int} (h : d.isNum = false) (h2 : isiB d (.type "bytes") = false) : none = d.due w ∧ none = d.txt := by
  cases d <;> first | exact ⟨rfl, rfl⟩ | exact ft h | exact ff h | exact ft h2 | exact ff h2
theorem to_number_r {w : Int} (hd : d.ok) (hw2 : 2 ≤ w) (hw : w ≤ 71) : GivesR 6 191 [.dat d, .lim w] (.num (d.due w)) := by
  refine givesR_fn (lev := 5) (xs := [Str.ofString "value", Str.ofString "limits"]) (fun P => by exact rfl) (fun P => by k_is) (fun _ _ s => BindsTo.of_eq rfl) (by decide) rfl rfl rfl (by decide) ?_
  intro c ok
  refine Ex.ifr (Tv.plain (Ev.call ok rfl (g_isn _) (k_isn _) is_number_r (by decide) (.cons (Ev.loc ok rfl) .nil))) (fun h => ?_) (fun h => ?_) fun _ _ => ret_next
  · obtain ⟨i, hi⟩ := isNum_of h
    exact Ex.ret (Ev.num_some (by subst hi; rfl) (Ev.dat_int hi (Ev.loc ok rfl)))
  refine Ex.ifr (Tv.plain (Ev.isi ok rfl (.cons (Ev.loc ok rfl) (.cons (Ev.n_bytes ok rfl) .nil)) .bytes)) (fun h2 => ?_) (fun h2 => Ex.ret (Ev.none_num (due_none h h2).1 Ev.cnone)) fun _ _ => ret_next
  obtain ⟨x, rfl⟩ := isText_of h2
  have ht := tib_texts x hd
  have e : (D.text x).due w = (tib x).map fun i => wrapZ i w := by rw [ht.2]; rfl
  rw [e]
  exact Ex.ret (Ev.call ok rfl (g_stn _) (k_stn _) (str_to_number_r ht.1 hw2 hw) (by decide) (.cons (Ev.dat_byt h2 (Ev.loc ok rfl)) (.cons (Ev.loc ok rfl) .nil)))
theorem to_text_r (hd : d.ok) : GivesR 2 205 [.dat d] (.txt d.txt) := by
  refine givesR_fn (lev := 1) (xs := [Str.ofString "value"]) (fun P => by exact rfl) (fun P => by k_is) (fun _ s => BindsTo.of_eq rfl) (by decide) rfl rfl rfl (by decide) ?_
  intro c ok
  refine Ex.ifr (Tv.plain (Ev.isi ok rfl (.cons (Ev.loc ok rfl) (.cons (Ev.n_bytes ok rfl) .nil)) .bytes)) (fun h2 => ?_) (fun h2 => ?_) fun _ _ => ret_next
  · obtain ⟨x, hx⟩ := isText_of h2
    exact Ex.ret (Ev.txt_some (by subst hx; rfl) (Ev.dat_byt h2 (Ev.loc ok rfl)))
  refine Ex.ifr (Tv.plain (Ev.call ok rfl (g_isn _) (k_isn _) is_number_r (by decide) (.cons (Ev.loc ok rfl) .nil))) (fun h => ?_) (fun h => Ex.ret (Ev.none_txt (due_none (w := 0) h h2).2 Ev.cnone)) fun _ _ => ret_next
  obtain ⟨i, hi⟩ := isNum_of h
  have hk : i.natAbs < 10 ^ 40 := by subst hi; exact hd
  exact Ex.ret (Ev.txt_some (by subst hi; rfl) (Ev.call ok rfl (g_ntx _) (k_ntx _) (number_text_r hk) (by decide) (.cons (Ev.dat_int hi (Ev.loc ok rfl)) .nil)))
theorem greatest_r {w : Int} (hw2 : 2 ≤ w) (hw : w ≤ 71) : GivesR 1 37 [.lim w] (.int (2 ^ (w - 1).toNat - 1)) := by
  refine givesR_fn (lev := 0) (xs := [Str.ofString "self"]) (fun P => by exact rfl) (fun P => by k_is) (fun _ s => BindsTo.of_eq rfl) (by decide) rfl rfl rfl (by decide) ?_
  intro c ok
  exact Ex.ret (Ev.int_of (by rw [Int.one_mul]) (Ev.bin (Ev.bin Ev.cint (Ev.bin (Ev.attr (Ev.loc ok rfl) (Un.width ok)) Ev.cint Bn.sub) (Bn.shl (by (first | lia | omega)) (shl1 (by (first | lia | omega)) (by (first | lia | omega))))) Ev.cint Bn.sub))
theorem least_r {w : Int} (hw2 : 2 ≤ w) (hw : w ≤ 71) : GivesR 1 44 [.lim w] (.int (-(2 ^ (w - 1).toNat))) := by
  refine givesR_fn (lev := 0) (xs := [Str.ofString "self"]) (fun P => by exact rfl) (fun P => by k_is) (fun _ s => BindsTo.of_eq rfl) (by decide) rfl rfl rfl (by decide) ?_
  intro c ok
  exact Ex.ret (Ev.int_of (by rw [Int.one_mul]) (Ev.neg (Ev.bin Ev.cint (Ev.bin (Ev.attr (Ev.loc ok rfl) (Un.width ok)) Ev.cint Bn.sub) (Bn.shl (by (first | lia | omega)) (shl1 (by (first | lia | omega)) (by (first | lia | omega)))))))
end
-- the sort's word
noncomputable def D.sort : D → Str
  | .nil => Str.ofString "nil"
  | .bool _ => Str.ofString "boolean"
  | .num _ => Str.ofString "number"
  | .text _ => Str.ofString "text"
  | .light _ => Str.ofString "light"
  | .heap _ => Str.ofString "heap"
noncomputable def D.isText : D → Bool
  | .text _ => true
  | _ => false
noncomputable def strEq (x y : Str) : Bool := x.cps.toList == y.cps.toList
theorem sort_number (d : D) : strEq d.sort (Str.ofString "number") = d.isNum := by
  cases d
  · exact (by decide : strEq (Str.ofString "nil") (Str.ofString "number") = false)
  · exact (by decide : strEq (Str.ofString "boolean") (Str.ofString "number") = false)
  · exact (by decide : strEq (Str.ofString "number") (Str.ofString "number") = true)
  · exact (by decide : strEq (Str.ofString "text") (Str.ofString "number") = false)
  · exact (by decide : strEq (Str.ofString "light") (Str.ofString "number") = false)
  · exact (by decide : strEq (Str.ofString "heap") (Str.ofString "number") = false)
theorem sort_text (d : D) : strEq d.sort (Str.ofString "text") = d.isText := by
  cases d
  · exact (by decide : strEq (Str.ofString "nil") (Str.ofString "text") = false)
  · exact (by decide : strEq (Str.ofString "boolean") (Str.ofString "text") = false)
  · exact (by decide : strEq (Str.ofString "number") (Str.ofString "text") = false)
  · exact (by decide : strEq (Str.ofString "text") (Str.ofString "text") = true)
  · exact (by decide : strEq (Str.ofString "light") (Str.ofString "text") = false)
  · exact (by decide : strEq (Str.ofString "heap") (Str.ofString "text") = false)
theorem dict_done {w : World} {K : Type} [DecidableEq K] {knd : PySem.KeyKind PR w K} {s : Shared} {h₀ : Heap} {L d : Addr} {m : Str → Option Value} {pre post : Led} {o : Obj} {Q : Value → Shared → Prop} {vs : List (Value × Value)} {kvs : List (K × Value)}
    (F : Fr h₀ L s.heap m) (N : News h₀ L s.heap (pre ++ (d, o) :: post)) (a : ∀ p ∈ pre, p.1 ≠ d) (b : ∀ p ∈ post, p.1 ≠ d) (hd : o.IsDictOf knd []) (hc : Carries knd vs kvs) (hn : (kvs.map (·.1)).Nodup)
    (h : ∀ h' o', Fr h₀ L h' m → News h₀ L h' (pre ++ (d, o') :: post) → o'.IsDictOf knd kvs → Q (.ref d) { s with heap := h', toks := s.toks + vs.length }) : KdnMade PR w knd d Q vs s := by
  have hn' := N (d, o) (List.mem_append_right _ (.head _))
  refine ⟨_, hc, Heap.dictOf_iff.mpr ⟨o, hn'.1, hd⟩, fun h' hmm hs => ?_⟩
  obtain ⟨o', ho', hd'⟩ := Heap.dictOf_iff.mp hmm
  rw [merged_nil_of_nodup _ hn] at hd'
  exact h h' o' (F.change hs hn'.2.1 hn'.2.2) (N.setIn a b hs ho') hd'
-- a table from texts to whole numbers
inductive TabB : List (List UInt8 × Value) → List (List UInt8 × Int) → Prop where
  | nil : TabB [] []
  | cons {x : List UInt8} {i : Int} {t : Tok} {kvs : List (List UInt8 × Value)} {ps : List (List UInt8 × Int)} : TabB kvs ps → TabB ((x, .int i t) :: kvs) ((x, i) :: ps)
theorem TabB.keys {kvs : List (List UInt8 × Value)} {ps : List (List UInt8 × Int)} (h : TabB kvs ps) : kvs.map (·.1) = ps.map (·.1) := by
  induction h with
  | nil => rfl
  | cons _ ih => rw [List.map_cons, List.map_cons, ih]
set_option tactic.hygienic true in
theorem TabB.at {kvs : List (List UInt8 × Value)} {ps : List (List UInt8 × Int)} (h : TabB kvs ps) (x : List UInt8) : match (ps.find? fun p => p.1 = x).map (·.2) with | some i => ∃ t, valueAt kvs x = some (.int i t) | none => valueAt kvs x = none := by
  induction h with
  | nil => rfl
  | cons _ ih =>
    rename_i y i t kvs ps h
    by_cases hy : y = x
    · have e : decide (y = x) = true := decide_eq_true hy
      simp only [valueAt, List.find?_cons, e, Option.map_some]
      exact ⟨t, rfl⟩
    · have e : decide (y = x) = false := decide_eq_false hy
      simp only [valueAt, List.find?_cons, e] at ih ⊢
      exact ih
-- a display's keys and values
inductive EvP (S : Fs) (c : Act) (Γ : Gam) : List (Option PySem.Expr) → List PySem.Expr → List (List UInt8 × Int) → Prop where
  | nil : EvP S c Γ [] [] []
  | cons {k v : PySem.Expr} {x : List UInt8} {i : Int} {ks : List (Option PySem.Expr)} {vs : List PySem.Expr} {ps : List (List UInt8 × Int)} : Ev (S.env c) c Γ k (.byt x) → Ev (S.env c) c Γ v (.int i) → EvP S c Γ ks vs ps → EvP S c Γ (some k :: ks) (v :: vs) ((x, i) :: ps)
section
variable {S : Fs} {c : Act} {Γ Γ' : Gam} {n : Nat} {x : Str} {pos xp yp tp sp : Pos} {a b e : PySem.Expr} {r ra rb r1 r2 : Rv} {k : Nat} {rest : List Stmt} {d : D} {ks : List (Option PySem.Expr)} {vs : List PySem.Expr} {ps : List (List UInt8 × Int)}
theorem EvP.walk (h : EvP S c Γ ks vs ps) : ∀ m (s : Shared) (Q : List (Value × Value) → Shared → Prop) (E : Value → Shared → Prop), GOk c Γ m → Fr c.h₀ c.L s.heap m → News c.h₀ c.L s.heap c.news →
    (∀ kv kvs h' tk', Fr c.h₀ c.L h' m → News c.h₀ c.L h' c.news → Carries (bytesKind PR c.w) kv kvs → TabB kvs ps → Q kv { s with heap := h', toks := tk' }) → wpAny (model PR c.w) c.A (evalPairs (pairTrees ks vs (S.env c) pos)) Q E s := by
  induction h with
  | nil => exact fun m s Q E G F N k => pairTrees_nil_walk (k [] [] s.heap s.toks F N trivial .nil)
  | cons h1 h2 h3 ih =>
    intro m s Q E G F N k
    refine pairTrees_cons_walk (h1 m s _ _ G F N fun u _ _ F1 N1 ⟨t, hu⟩ => h2 m _ _ _ G F1 N1 fun v _ _ F2 N2 ⟨t2, hv⟩ => ih m _ _ _ G F2 N2 fun kv kvs h' tk' F3 N3 hc ht => ?_)
    subst hu hv
    exact k _ ((_, _) :: kvs) h' tk' F3 N3 ⟨bytesKind_is PR c.w _ _, rfl, hc⟩ (.cons ht)
-- a new table of texts and whole numbers
noncomputable def NewT (c : Act) (ps : List (List UInt8 × Int)) (v : Value) (nw : Led) : Prop := ∃ d o kvs, v = .ref d ∧ nw = (d, o) :: c.news ∧ (∀ p ∈ c.news, p.1 < d) ∧ (d == sysModules) = false ∧ o.IsDictOf (bytesKind PR c.w) kvs ∧ TabB kvs ps
theorem EvN.dict (ok : Ok S c n) (h : ∀ nw, EvP S (c.led nw) Γ ks vs ps) (hf : Γ.all (fun p => p.2.flat) = true) (h1 : ks.all (·.isSome) = true) (h2 : ks.length = vs.length) (h3 : ks ≠ []) (h4 : ks.length ≤ 15) (hn : (ps.map (·.1)).Nodup) : EvN (S.env c) c Γ (.Dict ks vs pos) (NewT c ps) := fun m s Q E G F N k =>
  kdn_eval (knd := bytesKind PR c.w) F N (Top.nolimit ok.T) h1 h2 h3 h4 fun d h' o F1 N1 hl hsm hd => (h ((d, o) :: c.news)).walk m _ _ _ (GOk.flat ((d, o) :: c.news) G hf) F1 N1 fun kv kvs h2 tk2 F2 N2 hc ht =>
    dict_done (pre := []) F2 N2 (fun _ h => nomatch h) (fun p hp => Nat.ne_of_lt (hl p hp)) hd hc (ht.keys ▸ hn) fun h3 o3 F3 N3 hd3 => k _ _ h3 _ F3 N3 ⟨d, o3, kvs, rfl, rfl, hl, hsm, hd3, ht⟩
-- a name for what is made
theorem Ex.assignN {xp : Pos} {P : Value → Led → Prop} {R : Flow → (Str → Option Value) → Heap → Prop} (ok : Ok S c n) (hb : okN S x .local = true) (h : EvN (S.env c) c Γ e P) (hs : ∀ env, swapsWith e (some (.Name x xp)) pos.line env = pure false)
    (h2 : ∀ v nw, P v nw → (∀ p ∈ c.news, p ∈ nw) ∧ Ex S (c.led nw) ((x, .ex v) :: Γ) rest R) : Ex S c Γ (.Assign [.Name x xp] e pos :: rest) R := fun m s Q E O G F N k =>
  wpAny_execs_cons (wpAny_Assign_Name (h m s _ _ G F N fun v nw _ _ F1 N1 hP => storeX_L F1 N1 (fun h' F2 N2 => (h2 v nw hP).2 _ _ _ _ O ((GOk.mono G (h2 v nw hP).1).set (r := .ex v) rfl) F2 N2 k) ok.hk (okN_1 hb)) (hs _))
theorem Bn.eqstr {u v : Str} : Bn c (compareOp .Eq) (.str u) (.str v) (.bool (strEq u v)) := fun m p q s Q E F N ⟨_, hu⟩ ⟨_, hv⟩ k => by
  subst hu hv
  exact PyProof.Rows.eq_str (k _ s.toks (by rw [strEq, toList_beq]; rfl))
theorem Ev.held_int {i : Int} (h : d = .num i) (h1 : Ev (S.env c) c Γ e (.held d)) : Ev (S.env c) c Γ e (.int i) := fun m s Q E G F N k => h1 m s _ _ G F N fun v h' tk' F1 N1 hv => k v h' tk' F1 N1 (by
  subst h; exact hv)
theorem Ev.held_byt {y : List UInt8} (h : d = .text y) (h1 : Ev (S.env c) c Γ e (.held d)) : Ev (S.env c) c Γ e (.byt y) := fun m s Q E G F N k => h1 m s _ _ G F N fun v h' tk' F1 N1 hv => k v h' tk' F1 N1 (by
  subst h; exact hv)
theorem law_hi {n b : Int} (hb : 2 ≤ b) (h : decide (2 * n.fmod (1 * 2 ^ b.toNat) ≥ 1 * 2 ^ b.toNat) = true) : n.fmod (1 * 2 ^ b.toNat) - 1 * 2 ^ b.toNat = wrapZ n b := by
  have h := of_decide_eq_true h
  rw [Int.one_mul] at *
  have e : (2 : Int) ^ b.toNat = 2 * 2 ^ (b - 1).toNat := by
    rw [show b.toNat = (b - 1).toNat + 1 by (first | lia | omega), Int.pow_succ, Int.mul_comm]
  rw [wrapZ, if_pos (by (first | lia | omega))]
theorem law_lo {n b : Int} (hb : 2 ≤ b) (h : decide (2 * n.fmod (1 * 2 ^ b.toNat) ≥ 1 * 2 ^ b.toNat) = false) : n.fmod (1 * 2 ^ b.toNat) = wrapZ n b := by
  have h := of_decide_eq_false h
  rw [Int.one_mul] at *
  have e : (2 : Int) ^ b.toNat = 2 * 2 ^ (b - 1).toNat := by
    rw [show b.toNat = (b - 1).toNat + 1 by (first | lia | omega), Int.pow_succ, Int.mul_comm]
  rw [wrapZ, if_neg (by (first | lia | omega))]
noncomputable def toldL : List (List UInt8 × Int) := [([48], 0), ([49], 1), ([32, 49, 50, 32], 12), ([45, 51], -3), ([48, 120, 49, 102], 31)]
theorem told_nodup : (toldL.map (·.1)).Nodup := by decide
theorem told_texts : ∀ x ∈ textsL, (toldL.find? fun p => p.1 = x).map (·.2) = numOfText x := by decide
theorem isTxt_of (h : d.isText = true) : ∃ x, d = .text x := by
  cases d <;> first | exact ⟨_, rfl⟩ | exact ft h | exact ff h
theorem due_off {w : Int} (h : d.isNum = false) (h2 : d.isText = false) : none = d.due w := by
  cases d <;> first | rfl | exact ft h | exact ff h | exact ft h2 | exact ff h2
-- is it in the table
theorem Bn.inTab {dd : Addr} {o : Obj} {kvs : List (List UInt8 × Value)} {y : List UInt8} {t : Bool} (hm : (dd, o) ∈ c.news) (hsm : (dd == sysModules) = false) (hd : o.IsDictOf (bytesKind PR c.w) kvs) (hb : (valueAt kvs y).isSome = t) : Bn c (compareOp .In) (.byt y) (.ex (.ref dd)) (.bool t) := fun m u v s Q E F N ⟨_, hu⟩ hv k => by
  subst hu
  cases hv
  exact kda_in N hm hd hsm (bytesKind_is _ _ _ _) t hb (k _ _ rfl)
theorem Bn.tabAt {dd : Addr} {o : Obj} {kvs : List (List UInt8 × Value)} {y : List UInt8} {i : Int} {t : Tok} (hm : (dd, o) ∈ c.news) (hd : o.IsDictOf (bytesKind PR c.w) kvs) (hb : valueAt kvs y = some (.int i t))
    (hs : ∀ o i, subscripted b false o i = operate [o, i] (getItem o i)) (hl : ∀ o r, letTemporaryGo a o r = pure ()) : Bn c (subscriptTail a b) (.ex (.ref dd)) (.byt y) (.int i) := fun m u v s Q E F N hu ⟨_, hv⟩ k => by
  subst hv
  cases hu
  exact kda_item N hm hd (bytesKind_is _ _ _ _) hb (k _ _ ⟨_, rfl⟩) (hs _ _) (hl _)
theorem law_number_r {w : Int} (hd : d.ok) (hw2 : 2 ≤ w) (hw : w ≤ 71) : GivesR 1 254 [.str d.sort, .held d, .int w] (.num (d.due w)) := by
  refine givesR_fn (lev := 0) (xs := [Str.ofString "sort", Str.ofString "held", Str.ofString "width"]) (fun P => by exact rfl) (fun P => by k_is) (fun _ _ _ s => BindsTo.of_eq rfl) (by decide) rfl rfl rfl (by decide) ?_
  intro c ok
  refine Ex.ifr (Tv.of (sort_number d) (Tv.cmp (Ev.loc ok rfl) Ev.cstr Bn.eqstr)) (fun h => ?_) (fun h => ?_) fun _ _ => ret_next
  · obtain ⟨i, hi⟩ := isNum_of h
    exact Ex.ret (Ev.num_some (by subst hi; rfl) (Ev.held_int hi (Ev.loc ok rfl)))
  refine Ex.assignN (P := NewT c toldL) ok rfl ?_ (fun _ => rfl) fun v nw hN => ?_
  · refine' @EvN.dict _ _ _ _ _ _ _ toldL ok (fun nw => ?_) ?_ ?_ ?_ ?_ ?_ ?_
    · exact .cons Ev.cbyt Ev.cint (.cons Ev.cbyt Ev.cint (.cons Ev.cbyt Ev.cint (.cons Ev.cbyt (Ev.neg Ev.cint) (.cons Ev.cbyt Ev.cint .nil))))
    · exact rfl
    · exact rfl
    · exact rfl
    · exact List.cons_ne_nil _ _
    · exact Nat.le_of_ble_eq_true rfl
    · exact told_nodup
  obtain ⟨dd, o, kvs, rfl, rfl, hl, hsm, hdo, ht⟩ := hN
  refine ⟨fun p hp => .tail _ hp, ?_⟩
  have ok2 := ok.led ((dd, o) :: c.news)
  cases hx : d.isText with
  | false =>
    refine Ex.ifr (t := false && true) (Tv.and (Tv.of ((sort_text d).trans hx) (Tv.cmp (Ev.loc ok2 rfl) Ev.cstr Bn.eqstr)) fun h => by cases h) (fun h => by cases h) (fun _ => ?_) ?_
    · exact Ex.retW (c := c) (Ev.none_num (due_off h hx) Ev.cnone) (fun p hp => .tail _ hp) rfl
    · exact fun _ _ => ret_next
  | true =>
    obtain ⟨x, rfl⟩ := isTxt_of hx
    have h1 := ht.at x
    rw [told_texts x hd] at h1
    have e : (D.text x).due w = (numOfText x).map fun i => wrapZ i w := rfl
    rw [e]
    cases hn : numOfText x with
    | none =>
      rw [hn] at h1
      refine Ex.ifr (t := true && (false && true)) (Tv.and (Tv.of ((sort_text (.text x)).trans hx) (Tv.cmp (Ev.loc ok2 rfl) Ev.cstr Bn.eqstr)) fun _ => Tv.and (Tv.cmp (Ev.held_byt rfl (Ev.loc ok2 rfl)) (Ev.loc ok2 rfl) (Bn.inTab (.head _) hsm hdo (by rw [h1]; rfl))) fun h => by cases h) (fun h => by cases h) (fun _ => ?_) ?_
      · exact Ex.retW (c := c) (Ev.none_num rfl Ev.cnone) (fun p hp => .tail _ hp) rfl
      · exact fun _ _ => ret_next
    | some i =>
      rw [hn] at h1
      obtain ⟨t, h1⟩ := h1
      refine Ex.ifr (t := true && (true && true)) (Tv.and (Tv.of ((sort_text (.text x)).trans hx) (Tv.cmp (Ev.loc ok2 rfl) Ev.cstr Bn.eqstr)) fun _ => Tv.and (Tv.cmp (Ev.held_byt rfl (Ev.loc ok2 rfl)) (Ev.loc ok2 rfl) (Bn.inTab (.head _) hsm hdo (by rw [h1]; rfl))) fun _ => Tv.and_nil) (fun _ => ?_) (fun h => by cases h) ?_
      · have hs1 := shl1 (b := w) (by (first | lia | omega)) (by (first | lia | omega))
        have hw0 : (1 : Int) * 2 ^ w.toNat ≠ 0 := by rw [Int.one_mul]; exact Int.ne_of_gt (Int.pow_pos (by decide))
        refine Ex.seq (Es.assign ok2 rfl (Ev.bin Ev.cint (Ev.loc ok2 rfl) (Bn.shl (by (first | lia | omega)) hs1))) ?_
        refine Ex.seq (Es.assign ok2 rfl (Ev.bin (Ev.sub (Ev.loc ok2 rfl) (Ev.held_byt rfl (Ev.loc ok2 rfl)) (Bn.tabAt (.head _) hdo h1 (fun _ _ => rfl) fun _ _ => rfl)) (Ev.loc ok2 rfl) (Bn.mod hw0))) ?_
        exact Ex.retW (c := c) (Ev.num_some rfl (Ev.ite (r := .int (wrapZ i w)) (Tv.cmp (Ev.bin Ev.cint (Ev.loc ok2 rfl) (Bn.mul (mul_small (by decide)))) (Ev.loc ok2 rfl) Bn.ge) (fun h => Ev.int_of (law_hi hw2 h) (Ev.bin (Ev.loc ok2 rfl) (Ev.loc ok2 rfl) Bn.sub)) fun h => Ev.int_of (law_lo hw2 h) (Ev.loc ok2 rfl))) (fun p hp => .tail _ hp) rfl
      · exact fun _ _ => ret_next
end
-- a pair of a whole number and a text against another like it
theorem pair_ne {prog : Program} {w : World} {A : Around} {E : Value → Shared → Prop} {s : Shared} {l b : Addr} {i : Int} {x : Array UInt8} {t t1 u u1 : Tok} {Q : Value → Shared → Prop}
    (h1 : IsTup s.heap l #[.int i t, .bytes x t1]) (h2 : IsTup s.heap b #[.int i u, .bytes x u1]) (hu : A.units < cLine) (h : Q (.bool false) s) : wpAny (model prog w) A (compareOp .NotEq (.ref l) (.ref b)) Q E s := by
  have H := PySem.SeqAt.RcNeAt.tuples (A := A) (s := s) (items := #[.int i t, .bytes x t1]) (items2 := #[.int i u, .bytes x u1]) (e := fun _ => true) h1 h2 hu (by
    intro k hk hk2
    match k, hk, hk2 with
    | 0, _, _ => exact fun prog w E Q hq => PySem.SeqAt.EqAt.int_int _ _ _ _ prog w E Q (by rw [beq_self_eq_true]; exact hq)
    | 1, _, _ => exact fun prog w E Q hq => eqBool_bytes (by simpa using hq)
    | k + 2, hk, _ => simp at hk; (first | lia | omega))
  exact H prog w E Q h
-- a table from words to pairs
inductive TabT (nw : Led) : List (Str × Value) → List (Str × Int × List UInt8) → Prop where
  | nil : TabT nw [] []
  | cons {s : Str} {i : Int} {x : List UInt8} {a : Addr} {t t1 : Tok} {kvs : List (Str × Value)} {ps : List (Str × Int × List UInt8)} : (a, tup [.int i t, .bytes x.toArray t1]) ∈ nw → TabT nw kvs ps → TabT nw ((s, .ref a) :: kvs) ((s, i, x) :: ps)
theorem TabT.mono {nw nw' : Led} {kvs : List (Str × Value)} {ps : List (Str × Int × List UInt8)} (h : TabT nw kvs ps) (hs : ∀ a i t x t1, (a, tup [.int i t, .bytes x t1]) ∈ nw → (a, tup [.int i t, .bytes x t1]) ∈ nw') : TabT nw' kvs ps := by
  induction h with
  | nil => exact .nil
  | cons h1 _ ih => exact .cons (hs _ _ _ _ _ h1) ih
theorem TabT.keys {nw : Led} {kvs : List (Str × Value)} {ps : List (Str × Int × List UInt8)} (h : TabT nw kvs ps) : kvs.map (·.1) = ps.map (·.1) := by
  induction h with
  | nil => rfl
  | cons _ _ ih => rw [List.map_cons, List.map_cons, ih]
set_option tactic.hygienic true in
theorem TabT.at {nw : Led} {kvs : List (Str × Value)} {ps : List (Str × Int × List UInt8)} (h : TabT nw kvs ps) {s : Str} {i : Int} {x : List UInt8} (hq : (ps.find? fun p => p.1 = s).map (·.2) = some (i, x)) : ∃ a t t1, valueAt kvs s = some (.ref a) ∧ (a, tup [.int i t, .bytes x.toArray t1]) ∈ nw := by
  induction h with
  | nil => cases hq
  | cons h1 _ ih =>
    rename_i s' i' x' a t t1 kvs ps h
    by_cases hy : s' = s
    · have e : decide (s' = s) = true := decide_eq_true hy
      simp only [List.find?_cons, e, Option.map_some, Option.some.injEq, Prod.mk.injEq] at hq
      obtain ⟨rfl, rfl⟩ := hq
      exact ⟨a, t, t1, by simp only [valueAt, List.find?_cons, e, Option.map_some], h1⟩
    · have e : decide (s' = s) = false := decide_eq_false hy
      simp only [List.find?_cons, e] at hq
      simp only [valueAt, List.find?_cons, e] at ih ⊢
      exact ih hq
inductive EvPT (S : Fs) (c : Act) (Γ : Gam) : List (Option PySem.Expr) → List PySem.Expr → List (Str × Int × List UInt8) → Prop where
  | nil : EvPT S c Γ [] [] []
  | cons {k v : PySem.Expr} {s : Str} {i : Int} {x : List UInt8} {ks : List (Option PySem.Expr)} {vs : List PySem.Expr} {ps : List (Str × Int × List UInt8)} : (∀ nw, Ev (S.env (c.led nw)) (c.led nw) Γ k (.str s)) → (∀ nw, EvT S (c.led nw) Γ v (.int i) (.byt x)) → EvPT S c Γ ks vs ps → EvPT S c Γ (some k :: ks) (v :: vs) ((s, i, x) :: ps)
section
variable {S : Fs} {c : Act} {Γ Γ' : Gam} {n : Nat} {x : Str} {pos xp yp tp sp : Pos} {a b e : PySem.Expr} {r ra rb r1 r2 : Rv} {k : Nat} {rest : List Stmt} {d : D} {ks : List (Option PySem.Expr)} {vs : List PySem.Expr} {ps : List (Str × Int × List UInt8)}
theorem EvPT.walk (h : EvPT S c Γ ks vs ps) (hf : Γ.all (fun p => p.2.flat) = true) : ∀ nw m (s : Shared) (Q : List (Value × Value) → Shared → Prop) (E : Value → Shared → Prop), GOk c Γ m → Fr c.h₀ c.L s.heap m → News c.h₀ c.L s.heap nw →
    (∀ kv kvs tl h' tk', Fr c.h₀ c.L h' m → News c.h₀ c.L h' (tl ++ nw) → (∀ p ∈ tl, ∀ q ∈ nw, q.1 < p.1) → Carries (strKind PR c.w) kv kvs → TabT tl kvs ps → Q kv { s with heap := h', toks := tk' }) → wpAny (model PR c.w) c.A (evalPairs (pairTrees ks vs (S.env c) pos)) Q E s := by
  induction h with
  | nil => exact fun nw m s Q E G F N k => pairTrees_nil_walk (k [] [] [] s.heap s.toks F N (fun _ h => nomatch h) trivial .nil)
  | cons h1 h2 h3 ih =>
    intro nw m s Q E G F N k
    refine pairTrees_cons_walk (h1 nw m s _ _ (GOk.flat nw G hf) F N fun u _ _ F1 N1 ⟨t, hu⟩ => h2 nw m _ _ _ (GOk.flat nw G hf) F1 N1 fun a v1 v2 _ _ F2 N2 hl ⟨t1, hv1⟩ ⟨t2, hv2⟩ => ih _ m _ _ _ G F2 N2 fun kv kvs tl h' tk' F3 N3 hlt hc ht => ?_)
    subst hu hv1 hv2
    refine k _ ((_, _) :: kvs) (tl ++ [(a, tup [_, _])]) h' tk' F3 (by rw [List.append_assoc]; exact N3) ?_ ⟨strKind_is PR c.w _ _, rfl, hc⟩ (.cons (List.mem_append_right _ (.head _)) (ht.mono fun _ _ _ _ _ h => List.mem_append_left _ h))
    intro p hp q hq
    rcases List.mem_append.mp hp with hp | hp
    · exact hlt p hp q (.tail _ hq)
    · rw [List.mem_singleton.mp hp]; exact hl q hq
-- a new table of words and pairs, the pairs above it
noncomputable def NewTT (ps : List (Str × Int × List UInt8)) (c : Act) (v : Value) (nw : Led) : Prop := ∃ d o kvs tl, v = .ref d ∧ nw = tl ++ (d, o) :: c.news ∧ o.IsDictOf (strKind PR c.w) kvs ∧ TabT tl kvs ps
theorem EvN.dictT (ok : Ok S c n) (h : EvPT S c Γ ks vs ps) (hf : Γ.all (fun p => p.2.flat) = true) (h1 : ks.all (·.isSome) = true) (h2 : ks.length = vs.length) (h3 : ks ≠ []) (h4 : ks.length ≤ 15) (hn : (ps.map (·.1)).Nodup) : EvN (S.env c) c Γ (.Dict ks vs pos) (NewTT ps c) := fun m s Q E G F N k =>
  kdn_eval (knd := strKind PR c.w) F N (Top.nolimit ok.T) h1 h2 h3 h4 fun d h' o F1 N1 hl hsm hd => h.walk hf _ m _ _ _ G F1 N1 fun kv kvs tl h2 tk2 F2 N2 hlt hc ht =>
    dict_done (pre := tl) F2 N2 (fun p hp => Nat.ne_of_gt (hlt p hp _ (.head _))) (fun p hp => Nat.ne_of_lt (hl p hp)) hd hc (ht.keys ▸ hn) fun h3 o3 F3 N3 hd3 => k _ _ h3 _ F3 N3 ⟨d, o3, kvs, tl, rfl, rfl, hd3, ht⟩
theorem Ex.retN {P : Act → Value → Led → Prop} (h : EvN (S.env c) c Γ e (P c)) : Ex S c Γ (.Return (some e) pos :: rest) (RetP P c) := fun m s Q E O G F N k =>
  wpAny_execs_cons (wpAny_Return_some (h m s _ _ G F N fun v nw h' tk' F1 N1 hP => k (.ret v) h' tk' m F1 ⟨v, nw, rfl, N1, hP⟩))
end
section
variable {S : Fs} {c : Act} {Γ Γ' : Gam} {n : Nat} {x : Str} {pos xp yp tp sp : Pos} {a b e : PySem.Expr} {r ra rb r1 r2 : Rv} {k : Nat} {rest : List Stmt} {d : D}
noncomputable def namedL : List (Str × Int × List UInt8) := [(Str.ofString "nil", 0, [110, 105, 108]), (Str.ofString "boolean", 1, [98, 111, 111, 108, 101, 97, 110]), (Str.ofString "light", 2, [117, 115, 101, 114, 100, 97, 116, 97]), (Str.ofString "number", 3, [110, 117, 109, 98, 101, 114]), (Str.ofString "text", 4, [115, 116, 114, 105, 110, 103]), (Str.ofString "heap", -1, [110, 111, 32, 118, 97, 108, 117, 101])]
theorem named_nodup : (namedL.map (·.1)).Nodup := of_decide_eq_true (by first | rfl | kernel_rfl!)
theorem law_named_r : Does 1 226 [] (NewTT namedL) := by
  refine does_fn (lev := 0) (xs := []) (fun P => by exact rfl) (fun P => by k_is) (fun s => BindsTo.of_eq rfl) (fun _ h => nomatch h) rfl rfl rfl (by decide) ?_ ?_
  · rintro c c' v nw h0 h1 h2 ⟨d, o, kvs, tl, h3, h4, h5, h6⟩
    exact ⟨d, o, kvs, tl, h3, h1 ▸ h4, h0 ▸ h5, h6⟩
  · intro c ok
    refine Ex.retN ?_
    refine' @EvN.dictT _ _ _ _ _ _ _ namedL ok ?_ ?_ ?_ ?_ ?_ ?_ ?_
    rotate_left
    · exact rfl
    · exact rfl
    · exact rfl
    · exact List.cons_ne_nil _ _
    · exact Nat.le_of_ble_eq_true rfl
    · exact named_nodup
    unfold namedL
    refine .cons (fun _ => Ev.cstr) (fun _ => EvT.tuple Ev.cint Ev.cbyt) ?_
    refine .cons (fun _ => Ev.cstr) (fun _ => EvT.tuple Ev.cint Ev.cbyt) ?_
    refine .cons (fun _ => Ev.cstr) (fun _ => EvT.tuple Ev.cint Ev.cbyt) ?_
    refine .cons (fun _ => Ev.cstr) (fun _ => EvT.tuple Ev.cint Ev.cbyt) ?_
    refine .cons (fun _ => Ev.cstr) (fun _ => EvT.tuple Ev.cint Ev.cbyt) ?_
    exact .cons (fun _ => Ev.cstr) (fun _ => EvT.tuple (Ev.neg Ev.cint) Ev.cbyt) .nil
end
theorem named_at : ∀ d : D, (namedL.find? fun p => p.1 = d.sort).map (·.2) = some (d.tag, tagName d.tag)
  | .nil => by with_unfolding_all rfl
  | .bool _ => by with_unfolding_all rfl
  | .num _ => by with_unfolding_all rfl
  | .text _ => by with_unfolding_all rfl
  | .light _ => by with_unfolding_all rfl
  | .heap _ => by with_unfolding_all rfl
theorem sort_heap (d : D) : strEq d.sort (Str.ofString "heap") = d.isHeap := by
  cases d
  · exact (by decide : strEq (Str.ofString "nil") (Str.ofString "heap") = false)
  · exact (by decide : strEq (Str.ofString "boolean") (Str.ofString "heap") = false)
  · exact (by decide : strEq (Str.ofString "number") (Str.ofString "heap") = false)
  · exact (by decide : strEq (Str.ofString "text") (Str.ofString "heap") = false)
  · exact (by decide : strEq (Str.ofString "light") (Str.ofString "heap") = false)
  · exact (by decide : strEq (Str.ofString "heap") (Str.ofString "heap") = true)
theorem sort_nil (d : D) : strEq d.sort (Str.ofString "nil") = d.isNil := by
  cases d
  · exact (by decide : strEq (Str.ofString "nil") (Str.ofString "nil") = true)
  · exact (by decide : strEq (Str.ofString "boolean") (Str.ofString "nil") = false)
  · exact (by decide : strEq (Str.ofString "number") (Str.ofString "nil") = false)
  · exact (by decide : strEq (Str.ofString "text") (Str.ofString "nil") = false)
  · exact (by decide : strEq (Str.ofString "light") (Str.ofString "nil") = false)
  · exact (by decide : strEq (Str.ofString "heap") (Str.ofString "nil") = false)
theorem sort_bool (d : D) : strEq d.sort (Str.ofString "boolean") = isiB d (.type "bool") := by
  cases d
  · exact (by decide : strEq (Str.ofString "nil") (Str.ofString "boolean") = false)
  · exact (by decide : strEq (Str.ofString "boolean") (Str.ofString "boolean") = true)
  · exact (by decide : strEq (Str.ofString "number") (Str.ofString "boolean") = false)
  · exact (by decide : strEq (Str.ofString "text") (Str.ofString "boolean") = false)
  · exact (by decide : strEq (Str.ofString "light") (Str.ofString "boolean") = false)
  · exact (by decide : strEq (Str.ofString "heap") (Str.ofString "boolean") = false)
section
variable {S : Fs} {c : Act} {Γ Γ' : Gam} {n : Nat} {x : Str} {pos xp yp tp sp cp : Pos} {a b e : PySem.Expr} {r ra rb r1 r2 : Rv} {k : Nat} {rest : List Stmt} {d : D} {o : Option Int} {q : Option (List UInt8)}
theorem Bn.isnum : Bn c (compareOp .Is) (.num o) (.ex .none) (.bool o.isNone) := fun m u v s Q E F N hu hv k => by
  cases hv
  cases o with
  | none => cases hu; exact is_none_none (k _ s.toks rfl)
  | some i => obtain ⟨t, hu⟩ := hu; subst hu; exact is_int_none (k _ s.toks rfl)
theorem Bn.notnum : Bn c (compareOp .IsNot) (.num o) (.ex .none) (.bool o.isSome) := fun m u v s Q E F N hu hv k => by
  cases hv
  cases o with
  | none => cases hu; exact isnot_none_none (k _ s.toks rfl)
  | some i => obtain ⟨t, hu⟩ := hu; subst hu; exact isnot_int_none (k _ s.toks rfl)
theorem Bn.istxt : Bn c (compareOp .Is) (.txt q) (.ex .none) (.bool q.isNone) := fun m u v s Q E F N hu hv k => by
  cases hv
  cases q with
  | none => cases hu; exact is_none_none (k _ s.toks rfl)
  | some i => obtain ⟨t, hu⟩ := hu; subst hu; exact is_bytes_none (k _ s.toks rfl)
theorem Bn.nottxt : Bn c (compareOp .IsNot) (.txt q) (.ex .none) (.bool q.isSome) := fun m u v s Q E F N hu hv k => by
  cases hv
  cases q with
  | none => cases hu; exact isnot_none_none (k _ s.toks rfl)
  | some i => obtain ⟨t, hu⟩ := hu; subst hu; exact isnot_bytes_none (k _ s.toks rfl)
theorem Ev.num_dat {i : Int} (h : Ev (S.env c) c Γ e (.num (some i))) : Ev (S.env c) c Γ e (.dat (.num i)) := h
theorem Ev.num_int {i : Int} (h : Ev (S.env c) c Γ e (.num (some i))) : Ev (S.env c) c Γ e (.int i) := h
theorem Ev.txt_byt {y : List UInt8} (h : Ev (S.env c) c Γ e (.txt (some y))) : Ev (S.env c) c Γ e (.byt y) := h
-- the pair of a datum against the table's
theorem Tv.named (ok : Ok S c n) (hn : 1 ≤ n) (hb : okN S (Str.ofString "_law_named") .globalImplicit = true) (hg : nsIn (KK c) mainGlobals (Str.ofString "_law_named") = some (some (.ref 226))) (hk : keepIn (KK c) (.ref 226) = true)
    (h1 : EvT S c Γ a (.int d.tag) (.byt (tagName d.tag))) (h2 : ∀ nw, (∀ p ∈ c.news, p ∈ nw) → Ev (S.env (c.led nw)) (c.led nw) Γ e (.str d.sort))
    (hs : ∀ o i, subscripted e false o i = operate [o, i] (getItem o i)) (hm : behindInMarks .NotEq (.Subscript (.Call (.Name (Str.ofString "_law_named") xp) [] [] cp) e sp) = false) :
    Tv (S.env c) c Γ (.Compare a [.NotEq] [.Subscript (.Call (.Name (Str.ofString "_law_named") xp) [] [] cp) e sp] pos) false := fun m s wh Q E hw G F N kk =>
  wpAny_isTrue_Compare1 (h1 m s _ _ G F N fun l v1 v2 ha tka F1 N1 hl ⟨t1, hv1⟩ ⟨t2, hv2⟩ => Subscript_ (Call_ (Ev.glob (ok.led ((l, tup [v1, v2]) :: c.news)) hb hg m _ _ _ (GOk.mono G fun p hp => .tail _ hp) F1 N1 fun v _ _ F2 N2 hv => by
    cases hv
    refine callWith_K0 (ok.X.keeps F2.keep) hk ?_
    refine law_named_r S (c.led ((l, tup [v1, v2]) :: c.news)) ((ok.led _).mono hn) [] m _ _ _ .nil F2 N2 fun v nw h' tk' F3 N3 hT => ?_
    obtain ⟨dd, o, kvs, tl, rfl, rfl, hd, ht⟩ := hT
    obtain ⟨b, t, t', hat, hbm⟩ := ht.at (named_at d)
    have hsub : ∀ p ∈ c.news, p ∈ tl ++ (dd, o) :: (l, tup [v1, v2]) :: c.news := fun p hp => List.mem_append_right _ (.tail _ (.tail _ hp))
    refine h2 _ hsub m _ _ _ (GOk.mono G hsub) F3 N3 fun u h4 tk4 F4 N4 ⟨t3, hu⟩ => ?_
    subst hu hv1 hv2
    refine kdt_tail N4 (List.mem_append_right _ (.head _)) hd (wpAny_getItem_of (strKind_is _ _ _ _) (kda_dict N4 (List.mem_append_right _ (.head _)) hd).mapOf hat ?_) (hs _ _)
    refine pair_ne ⟨_, (N4 _ (List.mem_append_right _ (.tail _ (.head _)))).1, rfl, 0, rfl⟩ ⟨_, (N4 _ (List.mem_append_left _ hbm)).1, rfl, 0, rfl⟩ (by have := ok.hu; (first | lia | omega)) (wpAny_truthy_bool ?_)
    exact kk h4 _ F4 fun p hp => N4 p (hsub p hp)))) hm
end
section
variable {S : Fs} {c : Act} {Γ Γ' : Gam} {n : Nat} {x : Str} {pos xp yp tp sp cp : Pos} {a b e : PySem.Expr} {r ra rb r1 r2 : Rv} {k : Nat} {rest : List Stmt} {d : D} {o : Option Int} {q : Option (List UInt8)}
theorem g_named (P : Params) : nsIn (Mine.KF P) mainGlobals (Str.ofString "_law_named") = some (some (.ref 226)) := by k_is
theorem k_named (P : Params) : keepIn (Mine.KF P) (.ref 226) = true := by k_is
theorem g_tname (P : Params) : nsIn (Mine.KF P) mainGlobals (Str.ofString "type_name") = some (some (.ref 114)) := by k_is
theorem k_tname (P : Params) : keepIn (Mine.KF P) (.ref 114) = true := by k_is
theorem g_coll (P : Params) : nsIn (Mine.KF P) mainGlobals (Str.ofString "is_collectable") = some (some (.ref 128)) := by k_is
theorem k_coll (P : Params) : keepIn (Mine.KF P) (.ref 128) = true := by k_is
theorem g_isf (P : Params) : nsIn (Mine.KF P) mainGlobals (Str.ofString "is_false") = some (some (.ref 121)) := by k_is
theorem k_isf (P : Params) : keepIn (Mine.KF P) (.ref 121) = true := by k_is
theorem g_ton (P : Params) : nsIn (Mine.KF P) mainGlobals (Str.ofString "to_number") = some (some (.ref 191)) := by k_is
theorem k_ton (P : Params) : keepIn (Mine.KF P) (.ref 191) = true := by k_is
theorem g_lnum (P : Params) : nsIn (Mine.KF P) mainGlobals (Str.ofString "_law_number") = some (some (.ref 254)) := by k_is
theorem k_lnum (P : Params) : keepIn (Mine.KF P) (.ref 254) = true := by k_is
theorem g_ldig (P : Params) : nsIn (Mine.KF P) mainGlobals (Str.ofString "_law_digits") = some (some (.ref 261)) := by k_is
theorem k_ldig (P : Params) : keepIn (Mine.KF P) (.ref 261) = true := by k_is
theorem g_tot (P : Params) : nsIn (Mine.KF P) mainGlobals (Str.ofString "to_text") = some (some (.ref 205)) := by k_is
theorem k_tot (P : Params) : keepIn (Mine.KF P) (.ref 205) = true := by k_is
theorem tag_range : ∀ d : D, -1 ≤ d.tag ∧ d.tag ≤ 8
  | .nil => (by decide : (-1 : Int) ≤ 0 ∧ (0 : Int) ≤ 8)
  | .bool _ => (by decide : (-1 : Int) ≤ 1 ∧ (1 : Int) ≤ 8)
  | .num _ => (by decide : (-1 : Int) ≤ 3 ∧ (3 : Int) ≤ 8)
  | .text _ => (by decide : (-1 : Int) ≤ 4 ∧ (4 : Int) ≤ 8)
  | .light _ => (by decide : (-1 : Int) ≤ 2 ∧ (2 : Int) ≤ 8)
  | .heap _ => (by decide : (-1 : Int) ≤ -1 ∧ (-1 : Int) ≤ 8)
noncomputable def D.held0 : D → Bool
  | .bool b => !b
  | _ => false
theorem Ev.held_b (h : isiB d (.type "bool") = true) (h1 : Ev (S.env c) c Γ e (.held d)) : Ev (S.env c) c Γ e (.int (if d.held0 then 0 else 1)) := fun m s Q E G F N k => h1 m s _ _ G F N fun v h' tk' F1 N1 hv => k v h' tk' F1 N1 (by
  cases d with
  | bool b => cases b <;> exact hv
  | nil => exact ft h
  | num n => exact ft h
  | text x => exact ft h
  | light _ => exact ft h
  | heap _ => exact ft h)
theorem false_due : (d.isFalse != (d.isNil || (isiB d (.type "bool") && ((if d.held0 then (0 : Int) else 1) == 0)))) = false := by
  cases d with
  | bool b => cases b <;> rfl
  | nil => rfl
  | num n => rfl
  | text x => rfl
  | light n => rfl
  | heap n => rfl
theorem bne_same (b : Bool) : (b != b) = false := by cases b <;> rfl
theorem Bn.ne_same (i : Int) : Bn c (compareOp .NotEq) (.int i) (.int i) (.bool false) := by
  have h : (i != i) = false := by simp
  exact h ▸ Bn.ne
theorem txt_num (h : d.isNum = true) : ∃ i, d = .num i ∧ some (digB i) = d.txt := by
  obtain ⟨i, rfl⟩ := isNum_of h
  exact ⟨i, rfl, rfl⟩
theorem law_one_right_r {w : Int} (hd : d.ok) (hw2 : 2 ≤ w) (hw : w ≤ 71) : GivesR 8 273 [.str d.sort, .held d, .dat d, .lim w] (.bool true) := by
  refine givesR_fn (lev := 7) (xs := [Str.ofString "sort", Str.ofString "held", Str.ofString "value", Str.ofString "limits"]) (fun P => by exact rfl) (fun P => by k_is) (fun _ _ _ _ s => BindsTo.of_eq rfl) (by decide) rfl rfl rfl (by decide) ?_
  intro c ok
  have ht := tag_range d
  refine Ex.ifr (t := false) (Tv.named ok (by decide) rfl (g_named _) (k_named _) (EvT.tuple (Ev.type_of ok rfl (by decide) (Ev.loc ok rfl)) (Ev.call ok rfl (g_tname _) (k_tname _) (type_name_r ht.1 ht.2) (by decide) (.cons (Ev.type_of ok rfl (by decide) (Ev.loc ok rfl)) .nil))) (fun nw _ => Ev.loc (ok.led nw) rfl) (fun _ _ => rfl) rfl) (fun h => by cases h) (fun _ => ?_) fun _ _ => ret_next
  refine Ex.ifr (t := false || false) (Tv.or (Tv.cmp (Ev.call ok rfl (g_isn _) (k_isn _) is_number_r (by decide) (.cons (Ev.loc ok rfl) .nil)) (Ev.bool_of (sort_number d) (Ev.cmp (Ev.loc ok rfl) Ev.cstr Bn.eqstr)) (bne_same d.isNum ▸ Bn.nebool)) fun _ => Tv.of (Bool.or_false _) (Tv.or (Tv.cmp (Ev.call ok rfl (g_coll _) (k_coll _) is_collectable_r (by decide) (.cons (Ev.loc ok rfl) .nil)) (Ev.bool_of (sort_heap d) (Ev.cmp (Ev.loc ok rfl) Ev.cstr Bn.eqstr)) (bne_same d.isHeap ▸ Bn.nebool)) fun _ => Tv.or_nil)) (fun h => by cases h) (fun _ => ?_) fun _ _ => ret_next
  refine Ex.ifr (t := false) (Tv.of false_due (Tv.cmp (Ev.call ok rfl (g_isf _) (k_isf _) is_false_r (by decide) (.cons (Ev.loc ok rfl) .nil)) (Ev.or2 (Ev.bool_of (sort_nil d) (Ev.cmp (Ev.loc ok rfl) Ev.cstr Bn.eqstr)) fun _ => Ev.and2 (Ev.bool_of (sort_bool d) (Ev.cmp (Ev.loc ok rfl) Ev.cstr Bn.eqstr)) fun h => Ev.cmp (Ev.held_b h (Ev.loc ok rfl)) Ev.cint Bn.eq) Bn.nebool)) (fun h => by cases h) (fun _ => ?_) fun _ _ => ret_next
  refine Ex.seq (Es.pair ok rfl rfl (EvT.tuple (Ev.call ok rfl (g_ton _) (k_ton _) (to_number_r hd hw2 hw) (by decide) (.cons (Ev.loc ok rfl) (.cons (Ev.loc ok rfl) .nil))) (Ev.call ok rfl (g_lnum _) (k_lnum _) (law_number_r hd hw2 hw) (by decide) (.cons (Ev.loc ok rfl) (.cons (Ev.loc ok rfl) (.cons (Ev.attr (Ev.loc ok rfl) (Un.width ok)) .nil))))) (fun _ => rfl) (by with_unfolding_all rfl)) ?_
  refine Ex.ifr (t := false || false) (Tv.or (Tv.cmp (Ev.cmp (Ev.loc ok rfl) Ev.cnone Bn.isnum) (Ev.cmp (Ev.loc ok rfl) Ev.cnone Bn.isnum) (bne_same (d.due w).isNone ▸ Bn.nebool)) fun _ => Tv.of (Bool.or_false _) (Tv.or (t := false) ?_ fun _ => Tv.or_nil)) (fun h => by cases h) (fun _ => ?_) fun _ _ => ret_next
  · cases ho : d.due w with
    | none => exact Tv.and (t := false) (t' := true) (Tv.cmp (Ev.loc ok rfl) Ev.cnone Bn.notnum) fun h => by cases h
    | some i => exact Tv.and (t := true) (Tv.cmp (Ev.loc ok rfl) Ev.cnone Bn.notnum) fun _ => Tv.and (t := false || false) (t' := true) (Tv.or (Tv.plain (Ev.isi ok rfl (.cons (Ev.num_dat (Ev.loc ok rfl)) (.cons (Ev.n_bool ok rfl) .nil)) .bool)) fun _ => Tv.of (Bool.or_false _) (Tv.or (Tv.cmp (Ev.num_int (Ev.loc ok rfl)) (Ev.num_int (Ev.loc ok rfl)) (Bn.ne_same i)) fun _ => Tv.or_nil)) fun h => by cases h
  refine Ex.seq (Es.assign ok rfl (r := .txt d.txt) (Ev.ite (t := d.isNum) (Tv.of (sort_number d) (Tv.cmp (Ev.loc ok rfl) Ev.cstr Bn.eqstr)) (fun h => ?_) fun h => Ev.ite (t := d.isText) (Tv.of (sort_text d) (Tv.cmp (Ev.loc ok rfl) Ev.cstr Bn.eqstr)) (fun h2 => ?_) fun h2 => ?_)) ?_
  · obtain ⟨i, hi, hq⟩ := txt_num h
    exact Ev.txt_some hq (Ev.call ok rfl (g_ldig _) (k_ldig _) (law_digits_r (by subst hi; exact hd)) (by decide) (.cons (Ev.held_int hi (Ev.loc ok rfl)) .nil))
  · obtain ⟨x, hx⟩ := isTxt_of h2
    exact Ev.txt_some (by subst hx; rfl) (Ev.held_byt hx (Ev.loc ok rfl))
  · exact Ev.none_txt (by cases d <;> first | rfl | exact ft h | exact ff h | exact ft h2 | exact ff h2) Ev.cnone
  have hT : GivesR 2 205 [.dat d] (.txt d.txt) := to_text_r hd
  cases ht : d.txt with
  | none =>
    rw [ht] at hT
    exact Ex.ret (Ev.ite (t := false) (Tv.cmp (Ev.loc ok rfl) Ev.cnone Bn.nottxt) (fun h => by cases h) fun _ => Ev.cmp (Ev.call ok rfl (g_tot _) (k_tot _) hT (by decide) (.cons (Ev.loc ok rfl) .nil)) Ev.cnone Bn.istxt)
  | some y =>
    rw [ht] at hT
    have hy : (y == y) = true := by simp
    exact Ex.ret (Ev.ite (t := true) (Tv.cmp (Ev.loc ok rfl) Ev.cnone Bn.nottxt) (fun _ => Ev.cmp (Ev.txt_byt (Ev.call ok rfl (g_tot _) (k_tot _) hT (by decide) (.cons (Ev.loc ok rfl) .nil))) (Ev.txt_byt (Ev.loc ok rfl)) (hy ▸ Bn.eqbyt)) fun h => by cases h)
end
noncomputable abbrev inst (C x dx : Addr) : Addr × Obj := (x, instObj C dx)
-- the end of an __init__
noncomputable def NxtP (P : Act → Value → Led → Prop) (c : Act) (f : Flow) (_ : Str → Option Value) (h : Heap) : Prop := f = .next ∧ ∃ nw, News c.h₀ c.L h nw ∧ P c .none nw
theorem nxtP_out {P : Act → Value → Led → Prop} (c : Act) (f : Flow) (m : Str → Option Value) (h : Heap) (q : NxtP P c f m h) : ∃ nw, News c.h₀ c.L h nw ∧ P c (valOf f) nw := by
  obtain ⟨rfl, nw, h1, h2⟩ := q
  exact ⟨nw, h1, h2⟩
theorem putL_len (nm : Str) (hs : Int) (k v : Value) : ∀ es : List DictEntry, (putL nm hs k v es).length ≤ es.length + 1
  | [] => Nat.le_refl _
  | e :: r => by
    rw [putL]
    split
    · exact Nat.le_succ _
    · exact Nat.succ_le_succ (putL_len nm hs k v r)
theorem all_mono {c c' : Act} {rs : List Rv} {vs : List Value} (h : AllOk c rs vs) (hs : ∀ p ∈ c.news, p ∈ c'.news) (hb : c'.base = c.base := by rfl) : AllOk c' rs vs := by
  induction h with
  | nil => exact .nil
  | cons h1 _ ih => exact .cons (rv_same (c := c.led c'.news) (c' := c') rfl hb (Rv.ok_mono hs h1)) ih
section
variable {S : Fs} {c : Act} {Γ Γ' : Gam} {n : Nat} {x : Str} {pos xp yp tp sp cp : Pos} {a b e : PySem.Expr} {r ra rb r1 r2 : Rv} {k : Nat} {rest : List Stmt} {d : D} {R : Flow → (Str → Option Value) → Heap → Prop}
-- the sides of a store into an own object's part
structure SetOk (C : Addr) (nm : Str) : Prop where
  h1 : ∀ P, findIn (Mine.KF P) (.ref C) (Str.ofString "__setattr__") = some (some (.builtin "object.__setattr__"))
  h2 : ∀ P, plainOver (Mine.KF P) C = true
  h3 : ∀ P, takerIn (Mine.KF P) C nm = some none
  h4 : ∀ P, hasDictIn (Mine.KF P) C = true
theorem Ex.setattr {C y dx : Addr} {es : List DictEntry} {cap : Nat} {nw0 : Led} {nm : Str} {i : Int} (ok : Ok S c n) (hc : c.news = inst C y dx :: (dx, dictOf es cap) :: nw0) (hl : ∀ p ∈ nw0, p.1 < dx) (hlt : (dx : Nat) < y) (hf : Γ.all (fun p => p.2.flat) = true) (so : SetOk C nm)
    (hg : (getL nm es).isSome = true) (hlen : es.length ≤ 20) (h : Ev (S.env c) c Γ e (.int i)) (h1 : Ev (S.env c) c Γ (.Name x xp) (.ex (.ref y))) (hs : ∀ env, swapsWith e (some (.Attribute (.Name x xp) nm yp)) pos.line env = pure false)
    (h3 : ∀ t t1, Ex S (c.led (inst C y dx :: (dx, dictOf (putL nm (PyData.keyHash c.w.params nm) (.str nm t1) (.int i t) es) (putN nm es cap)) :: nw0)) Γ rest R) :
    Ex S c Γ (.Assign [.Attribute (.Name x xp) nm yp] e pos :: rest) R := fun m s Q E O G F N kk =>
  wpAny_execs_cons (plainObj_wpAny_Assign_Attribute (h m s _ _ G F N fun v _ _ F1 N1 ⟨t, hv⟩ => h1 m _ _ _ G F1 N1 fun u _ _ F2 N2 hu => by
    subst hv
    cases hu
    have X : (Mine.KF c.w.params).In c.h₀ := ok.X
    rw [hc] at N2
    refine set_dict F2 X N2 (InstAt.of_news N2 (.head _) (.tail _ (.head _))) rfl (so.h1 _) (so.h2 _) (so.h3 _) (so.h4 _) hg rfl (.tail (Nat.ne_of_gt hlt) (.head fun p hp => Nat.ne_of_lt (hl p hp))) ?_ fun h' F3 N3 => ?_
    · exact Nat.le_trans (putL_len _ _ _ _ es) (by (first | lia | omega))
    · exact h3 t _ m _ _ _ O (GOk.flat _ G hf) F3 N3 kk) (hs _))
-- what an object's making needs of the written part
structure ClsOk (nm : Str) (C fI : Addr) : Prop where
  g : ∀ P, nsIn (Mine.KF P) mainGlobals nm = some (some (.ref C))
  k : ∀ P, keepIn (Mine.KF P) (.ref C) = true
  m : ∀ P, makesIn (Mine.KF P) C = true
  i : ∀ P, findIn (Mine.KF P) (.ref C) (Str.ofString "__init__") = some (some (.ref fI))
  f : ∀ P, isFn (Mine.KF P) (.ref fI) = true
theorem Ok.under {C : Addr} {vals : List Value} (ok : Ok S c (n + 1)) : Ok S { c with A := c.A.under (.builtin "type.__call__" ⟨.ref C :: vals, []⟩) } n :=
  ⟨ok.B, ok.X, ok.T, by
    have : ∀ (A : Around) (l : List Env), A.frames = some l → (A.under (.builtin "type.__call__" ⟨.ref C :: vals, []⟩)).frames = some l := by
      rintro ⟨hd, d, fr, gs, u⟩ l h
      cases h; rfl
    exact this _ _ ok.fr, ok.hh, ok.hk, by have := ok.hd; show c.A.depth + 1 + n < _; (first | lia | omega), by have := ok.hu; show c.A.units + 1 + 20 * n < _; (first | lia | omega)⟩
-- a call of a class: its __init__ by what it does with a new object
theorem EvN.new {C fI : Addr} {P : Value → Led → Prop} {e₁ : PySem.Expr} {es : List PySem.Expr} {rs : List Rv} (ok : Ok S c (n + 1)) (hb : okN S x .globalImplicit = true) (co : ClsOk x C fI) (hes : EvL (S.env c) c Γ (e₁ :: es) rs)
    (hI : ∀ (c' : Act) y dx vs m (s : Shared) (Q : Result → Shared → Prop), c'.w = c.w → Ok S c' n → c'.news = inst C y dx :: (dx, dictOf [] 0) :: c.news → (∀ p ∈ c.news, p.1 < dx) → (dx : Nat) < y → AllOk c' rs vs → Fr c'.h₀ c'.L s.heap m → News c'.h₀ c'.L s.heap c'.news →
      (∀ nw h' tk', Fr c'.h₀ c'.L h' m → News c'.h₀ c'.L h' nw → P (.ref y) nw → Q (.ok (.ret .none)) { s with heap := h', toks := tk' }) → codeAny (model PR c'.w) c'.A (Code.call (.ref fI) ⟨.ref y :: vs, []⟩) Q s) : EvN (S.env c) c Γ (.Call (.Name x xp) (e₁ :: es) [] pos) P := fun m s Q E G F N k =>
  Call_ (Ev.glob ok hb (co.g _) m s _ _ G F N fun v _ _ F1 N1 hv => by
    cases hv
    have hs : starEach (e₁ :: es) (S.env c) = (false, eval e₁ (S.env c)) :: starEach es (S.env c) := by cases hes with | cons _ _ hs => exact hs _
    have hp : (backTo pos (starEach es (S.env c))).any (·.1) = false := by cases hes with | cons _ h3 _ => exact h3.plain _
    refine callWith_K ok.X (co.k _) (hes.args m _ _ _ G F1 N1 fun vs _ _ F2 N2 hvs => ⟨ok.X.keeps F2.keep, ?_⟩) hs hp
    have X : (Mine.KF c.w.params).In c.h₀ := ok.X
    refine call_cls F2 X N2 (co.m _) (co.i _) (co.f _) fun y dx h' F3 N3 hl hlt => ?_
    exact hI { c with A := c.A.under (.builtin "type.__call__" ⟨.ref C :: vs, []⟩), news := inst C y dx :: (dx, dictOf [] 0) :: c.news } y dx vs m _ _ rfl ((ok.under (C := C) (vals := vs)).led _) rfl hl hlt (all_mono hvs fun p hp => .tail _ (.tail _ hp)) F3 N3 fun nw h4 tk4 F4 N4 hP => ⟨rfl, k _ nw h4 tk4 F4 N4 hP⟩)
end
theorem light_ok : ClsOk (Str.ofString "LightValue") 89 86 := ⟨fun _ => g_light _, fun _ => by k_is, fun _ => by k_is, fun _ => by k_is, fun _ => by k_is⟩
theorem heap_ok : ClsOk (Str.ofString "HeapObject") 68 65 := ⟨fun _ => g_heap _, fun _ => by k_is, fun _ => by k_is, fun _ => by k_is, fun _ => by k_is⟩
theorem light_set : SetOk 89 (Str.ofString "number") := ⟨fun _ => by k_is, fun _ => by k_is, fun _ => by k_is, fun _ => by k_is⟩
theorem heap_set1 : SetOk 68 (Str.ofString "number") := ⟨fun _ => by k_is, fun _ => by k_is, fun _ => by k_is, fun _ => by k_is⟩
theorem heap_set2 : SetOk 68 (Str.ofString "mark") := ⟨fun _ => by k_is, fun _ => by k_is, fun _ => by k_is, fun _ => by k_is⟩
theorem heap_set3 : SetOk 68 (Str.ofString "size") := ⟨fun _ => by k_is, fun _ => by k_is, fun _ => by k_is, fun _ => by k_is⟩
-- a value that bears d, over a ledger that has grown
noncomputable def Made (d : D) (nw0 : Led) (v : Value) (nw : Led) : Prop := ∃ tl, nw = tl ++ nw0 ∧ (∀ q ∈ nw0, ∀ p ∈ tl, q.1 < p.1) ∧ VRel tl v d
theorem made_hi {nw0 : Led} {y dx : Addr} {o o2 : Obj} (hl : ∀ p ∈ nw0, p.1 < dx) (hlt : (dx : Nat) < y) : ∀ q ∈ nw0, ∀ p ∈ [(y, o), (dx, o2)], q.1 < p.1 := fun q hq p hp => by
  rcases List.mem_cons.mp hp with rfl | hp
  · exact Nat.lt_trans (hl q hq) hlt
  · rw [List.mem_singleton.mp hp]; exact hl q hq
section
variable {S : Fs} {c : Act} {Γ Γ' : Gam} {n : Nat} {x : Str} {pos xp yp tp sp cp : Pos} {a b e : PySem.Expr} {r ra rb r1 r2 : Rv} {k : Nat} {rest : List Stmt} {d : D} {R : Flow → (Str → Option Value) → Heap → Prop}
theorem EvN.light {i : Int} (ok : Ok S c 2) (hb : okN S (Str.ofString "LightValue") .globalImplicit = true) (h : Ev (S.env c) c Γ e (.int i)) (hs : ∀ env, starEach [e] env = (false, eval e env) :: starEach [] env := by intro _; rfl) : EvN (S.env c) c Γ (.Call (.Name (Str.ofString "LightValue") xp) [e] [] pos) (Made (.light i) c.news) :=
  EvN.new ok hb light_ok (.cons h .nil hs) fun c' y dx vs m s Q hw ok' hc hl hlt hvs F N k => by
    cases hvs with
    | cons h1 h2 =>
      cases h2
      refine does_code (lev := 0) (rs := [.ex (.ref y), .int i]) (xs := [Str.ofString "self", Str.ofString "number"]) (P := fun _ v nw => v = .none ∧ Made (.light i) c.news (.ref y) nw) (RR := NxtP fun _ v nw => v = .none ∧ Made (.light i) c.news (.ref y) nw) (Pre := fun nws => nws = inst 89 y dx :: (dx, dictOf [] 0) :: c.news) (fun P => by exact rfl) (fun P => by k_is) (by decide) rfl rfl rfl (by decide) (fun _ _ _ _ _ _ _ h => h) nxtP_out (fun c2 ok2 hc2 => ?_) ok' (BindsTo.of_eq rfl) hc (.cons rfl (.cons h1 .nil)) F N fun v nw h' tk' F' N' hP => ?_
      · refine Ex.setattr ok2 hc2 hl hlt rfl light_set rfl (Nat.zero_le _) (Ev.loc ok2 rfl) (Ev.loc ok2 rfl) (fun _ => rfl) fun t t1 => Ex.nil fun m h G N => ⟨rfl, _, N, rfl, ?_⟩
        exact ⟨[_, _], rfl, made_hi hl hlt, _, _, _, _, _, _, rfl, .head _, .tail _ (.head _)⟩
      · obtain ⟨rfl, hP⟩ := hP
        exact k nw h' tk' F' N' hP
theorem EvN.heap {i j : Int} (ok : Ok S c 2) (hb : okN S (Str.ofString "HeapObject") .globalImplicit = true) (h : EvL (S.env c) c Γ [a, b] [.int i, .int j]) : EvN (S.env c) c Γ (.Call (.Name (Str.ofString "HeapObject") xp) [a, b] [] pos) (Made (.heap i) c.news) :=
  EvN.new ok hb heap_ok h fun c' y dx vs m s Q hw ok' hc hl hlt hvs F N k => by
    cases hvs with
    | cons h1 h2 =>
      cases h2 with
      | cons h3 h4 =>
        cases h4
        refine does_code (lev := 0) (rs := [.ex (.ref y), .int i, .int j]) (xs := [Str.ofString "self", Str.ofString "number", Str.ofString "size"]) (P := fun _ v nw => v = .none ∧ Made (.heap i) c.news (.ref y) nw) (RR := NxtP fun _ v nw => v = .none ∧ Made (.heap i) c.news (.ref y) nw) (Pre := fun nws => nws = inst 68 y dx :: (dx, dictOf [] 0) :: c.news) (fun P => by exact rfl) (fun P => by k_is) (by decide) rfl rfl rfl (by decide) (fun _ _ _ _ _ _ _ h => h) nxtP_out (fun c2 ok2 hc2 => ?_) ok' (BindsTo.of_eq rfl) hc (.cons rfl (.cons h1 (.cons h3 .nil))) F N fun v nw h' tk' F' N' hP => ?_
        · refine Ex.setattr ok2 hc2 hl hlt rfl heap_set1 rfl (Nat.zero_le _) (Ev.loc ok2 rfl) (Ev.loc ok2 rfl) (fun _ => rfl) fun t t1 => ?_
          refine Ex.setattr (ok2.led _) rfl hl hlt rfl heap_set2 rfl (Nat.le_of_ble_eq_true rfl) Ev.cint (Ev.loc (ok2.led _) rfl) (fun _ => rfl) fun t2 t3 => ?_
          refine Ex.setattr ((ok2.led _).led _) rfl hl hlt rfl heap_set3 rfl (Nat.le_of_ble_eq_true rfl) (Ev.loc ((ok2.led _).led _) rfl) (Ev.loc ((ok2.led _).led _) rfl) (fun _ => rfl) fun t4 t5 => Ex.nil fun m h G N => ⟨rfl, _, N, rfl, ?_⟩
          exact ⟨[_, _], rfl, made_hi hl hlt, _, _, _, _, _, _, _, _, _, _, _, _, _, _, rfl, .head _, .tail _ (.head _)⟩
        · obtain ⟨rfl, hP⟩ := hP
          exact k nw h' tk' F' N' hP
theorem Ex.retE {P : Act → Value → Led → Prop} (h : Ev (S.env c) c Γ e r) (hP : ∀ v, r.ok c v → P c v c.news) : Ex S c Γ (.Return (some e) pos :: rest) (RetP P c) := fun m s Q E O G F N k =>
  wpAny_execs_cons (wpAny_Return_some (h m s _ _ G F N fun v h' tk' F1 N1 hv => k (.ret v) h' tk' m F1 ⟨v, _, rfl, N1, hP v hv⟩))
theorem EvN.ofEv {P : Value → Led → Prop} (h : Ev (S.env c) c Γ e r) (hP : ∀ v, r.ok c v → P v c.news) : EvN (S.env c) c Γ e P := fun m s Q E G F N k => h m s _ _ G F N fun v h' tk' F1 N1 hv => k v _ h' tk' F1 N1 (hP v hv)
theorem EvN.mono {P P' : Value → Led → Prop} (h : EvN (S.env c) c Γ e P) (hP : ∀ v nw, P v nw → P' v nw) : EvN (S.env c) c Γ e P' := fun m s Q E G F N k => h m s Q E G F N fun v nw h' tk' F' N' q => k v nw h' tk' F' N' (hP v nw q)
theorem sort_light (d : D) : strEq d.sort (Str.ofString "light") = isiB d (.ref 89) := by
  cases d
  · exact (by decide : strEq (Str.ofString "nil") (Str.ofString "light") = false)
  · exact (by decide : strEq (Str.ofString "boolean") (Str.ofString "light") = false)
  · exact (by decide : strEq (Str.ofString "number") (Str.ofString "light") = false)
  · exact (by decide : strEq (Str.ofString "text") (Str.ofString "light") = false)
  · exact (by decide : strEq (Str.ofString "light") (Str.ofString "light") = true)
  · exact (by decide : strEq (Str.ofString "heap") (Str.ofString "light") = false)
theorem Ev.held_obj (h : d.isObj = true) (h1 : Ev (S.env c) c Γ e (.held d)) : Ev (S.env c) c Γ e (.int d.numOf) := fun m s Q E G F N k => h1 m s _ _ G F N fun v h' tk' F1 N1 hv => k v h' tk' F1 N1 (by
  cases d with
  | light n => exact hv
  | heap n => exact hv
  | bool b => exact ft h
  | nil => exact ft h
  | num n => exact ft h
  | text x => exact ft h)
theorem made_flat (h0 : d.isNil = false) (h1 : isiB d (.type "bool") = false) (h2 : isiB d (.ref 89) = false) (h3 : d.isHeap = false) {nw : Led} {v : Value} (h : HRel v d) : VRel nw v d := by
  cases d with
  | nil => exact ff h0
  | bool b => exact ff h1
  | num n => obtain ⟨t, rfl⟩ := h; exact .num _ _
  | text x => obtain ⟨t, rfl⟩ := h; exact .text _ _
  | light n => exact ff h2
  | heap n => exact ff h3
theorem made_nil (h0 : d.isNil = true) {nw : Led} : VRel nw .none d := by
  cases d <;> first | exact .nil | exact ft h0
theorem made_bool (h0 : isiB d (.type "bool") = true) {nw : Led} : VRel nw (.bool ((if d.held0 then (0 : Int) else 1) == 1)) d := by
  cases d with
  | bool b => cases b <;> exact .bool _
  | nil => exact ft h0
  | num n => exact ft h0
  | text x => exact ft h0
  | light n => exact ft h0
  | heap n => exact ft h0
theorem obj_of (h : isiB d (.ref 89) = true ∨ d.isHeap = true) : d.isObj = true ∧ (isiB d (.ref 89) = true → d = .light d.numOf) ∧ (d.isHeap = true → d = .heap d.numOf) := by
  cases d with
  | light n => exact ⟨rfl, fun _ => rfl, fun h => ft h⟩
  | heap n => exact ⟨rfl, fun h => ft h, fun _ => rfl⟩
  | nil => exact h.elim (fun h => ft h) fun h => ft h
  | bool n => exact h.elim (fun h => ft h) fun h => ft h
  | num n => exact h.elim (fun h => ft h) fun h => ft h
  | text n => exact h.elim (fun h => ft h) fun h => ft h
theorem law_made_r : Does 3 247 [.str d.sort, .held d] (fun c v nw => Made d c.news v nw) := by
  refine does_fn (lev := 2) (xs := [Str.ofString "sort", Str.ofString "held"]) (fun P => by exact rfl) (fun P => by k_is) (fun _ _ s => BindsTo.of_eq rfl) (by decide) rfl rfl rfl (by decide) (fun c c' v nw _ h1 _ h => h1 ▸ h) ?_
  intro c ok
  refine Ex.ifr (Tv.of (sort_nil d) (Tv.cmp (Ev.loc ok rfl) Ev.cstr Bn.eqstr)) (fun h => Ex.retE Ev.cnone fun v hv => ⟨[], rfl, (fun _ _ _ h => nomatch h), by cases hv; exact made_nil h⟩) (fun h0 => ?_) fun _ _ => retP_next
  refine Ex.ifr (Tv.of (sort_bool d) (Tv.cmp (Ev.loc ok rfl) Ev.cstr Bn.eqstr)) (fun h => Ex.retE (Ev.cmp (Ev.held_b h (Ev.loc ok rfl)) Ev.cint Bn.eq) fun v hv => ⟨[], rfl, (fun _ _ _ h => nomatch h), by cases hv; exact made_bool h⟩) (fun h1 => ?_) fun _ _ => retP_next
  refine Ex.ifr (Tv.of (sort_light d) (Tv.cmp (Ev.loc ok rfl) Ev.cstr Bn.eqstr)) (fun h => ?_) (fun h2 => ?_) fun _ _ => retP_next
  · obtain ⟨h3, h4, _⟩ := obj_of (.inl h)
    refine Ex.retN (P := fun c v nw => Made d c.news v nw) ?_
    exact EvN.mono (EvN.light ok rfl (Ev.held_obj h3 (Ev.loc ok rfl))) fun v nw q => by rw [h4 h]; exact q
  · refine Ex.retN (P := fun c v nw => Made d c.news v nw) (EvN.ite (t := d.isHeap) (Tv.of (sort_heap d) (Tv.cmp (Ev.loc ok rfl) Ev.cstr Bn.eqstr)) (fun h => ?_) fun h => EvN.ofEv (Ev.loc ok rfl) fun v hv => ⟨[], rfl, (fun _ _ _ h => nomatch h), made_flat h0 h1 h2 h hv⟩)
    obtain ⟨h3, _, h4⟩ := obj_of (.inr h)
    exact EvN.mono (EvN.heap ok rfl (.cons (Ev.held_obj h3 (Ev.loc ok rfl)) (.cons Ev.cint .nil))) fun v nw q => by rw [h4 h]; exact q
end
-- what is drawn
noncomputable def drawZ (ns : List Int) (k : Int) : D :=
  if (cellZ ns k).fmod 6 = 0 then .nil
  else if (cellZ ns k).fmod 6 = 1 then .bool (decide ((cellZ ns (k + 1)).fmod 2 = 1))
  else if (cellZ ns k).fmod 6 = 2 then .num (if 0 < (cellZ ns (k + 1)).fmod 5 then (cellZ ns (k + 1)).fmod 3 - 1 else (cellZ ns (k + 1)).fmod (10 ^ 30) - 10 ^ 29)
  else if (cellZ ns k).fmod 6 = 3 then .text (textsL.getD ((cellZ ns (k + 1)).fmod 12).toNat [])
  else if (cellZ ns k).fmod 6 = 4 then .light ((cellZ ns (k + 1)).fmod 8)
  else .heap ((cellZ ns (k + 1)).fmod 8)
-- a pair of the drawn: the sort's word, what is held
noncomputable def PairObj (o : Obj) (d : D) : Prop := ∃ v t, o = tup [.str d.sort t, v] ∧ HRel v d
-- a drawn pair is handed back
noncomputable def Drawn (d : D) (c : Act) (v : Value) (nw : Led) : Prop := ∃ a o, v = .ref a ∧ nw = (a, o) :: c.news ∧ (∀ p ∈ c.news, p.1 < a) ∧ PairObj o d
section
variable {S : Fs} {c : Act} {Γ Γ' : Gam} {n : Nat} {x : Str} {pos xp yp tp sp cp : Pos} {a b e : PySem.Expr} {r ra rb r1 r2 : Rv} {k : Nat} {rest : List Stmt} {d : D} {R : Flow → (Str → Option Value) → Heap → Prop}
theorem g_cell (P : Params) : nsIn (Mine.KF P) mainGlobals (Str.ofString "_law_cell") = some (some (.ref 233)) := by k_is
theorem k_cell (P : Params) : keepIn (Mine.KF P) (.ref 233) = true := by k_is
theorem g_texts (P : Params) : nsIn (Mine.KF P) mainGlobals (Str.ofString "_law_texts") = some (some (.ref 219)) := by k_is
theorem k_texts (P : Params) : keepIn (Mine.KF P) (.ref 219) = true := by k_is
theorem Ex.retD (h : EvT S c Γ e (.str d.sort) (.held d)) : Ex S c Γ (.Return (some e) pos :: rest) (RetP (Drawn d) c) := fun m s Q E O G F N k =>
  wpAny_execs_cons (wpAny_Return_some (h m s _ _ G F N fun a v1 v2 h' tk' F1 N1 l ⟨t, h1⟩ h2 => k (.ret (.ref a)) h' tk' m F1 ⟨_, _, rfl, N1, a, _, rfl, rfl, l, v2, t, by rw [h1], h2⟩))
theorem Ev.to_held (h : Ev (S.env c) c Γ e r) (hr : ∀ v, r.ok c v → HRel v d) : Ev (S.env c) c Γ e (.held d) := fun m s Q E G F N k => h m s _ _ G F N fun v h' tk' F1 N1 hv => k v h' tk' F1 N1 (hr v hv)
theorem Ev.str_of {u v : Str} (q : u = v) (h : Ev (S.env c) c Γ e (.str u)) : Ev (S.env c) c Γ e (.str v) := q ▸ h
theorem drawn_same (c c' : Act) (v : Value) (nw : Led) (_ : c'.w = c.w) (h1 : c'.news = c.news) (_ : c'.base = c.base) (h : Drawn d c' v nw) : Drawn d c v nw := by
  obtain ⟨a, o, h3, h4, h5, h6⟩ := h
  exact ⟨a, o, h3, h1 ▸ h4, h1 ▸ h5, h6⟩
theorem fmod6 (z : Int) : 0 ≤ z.fmod 6 ∧ z.fmod 6 ≤ 5 := by rw [Int.fmod_eq_emod_of_nonneg _ (by decide)]; (first | lia | omega)
theorem fmod2 (z : Int) : z.fmod 2 = if decide (z.fmod 2 = 1) = true then 1 else 0 := by
  have q : z.fmod 2 = 0 ∨ z.fmod 2 = 1 := by rw [Int.fmod_eq_emod_of_nonneg _ (by decide)]; (first | lia | omega)
  rcases q with q | q <;> rw [q] <;> decide
-- a call without arguments
theorem EvN.call0 {f : Addr} {lev : Nat} {P : Act → Value → Led → Prop} (ok : Ok S c n) (hb : okN S x .globalImplicit = true) (h : nsIn (KK c) mainGlobals x = some (some (.ref f))) (hf : keepIn (KK c) (.ref f) = true) (C : Does lev f [] P) (hl : lev ≤ n) : EvN (S.env c) c Γ (.Call (.Name x xp) [] [] pos) (P c) := fun m s Q E G F N k =>
  Call_ (Ev.glob ok hb h m s _ _ G F N fun v _ _ F1 N1 hv => by
    cases hv
    exact callWith_K0 (ok.X.keeps F1.keep) hf (C S c (ok.mono hl) [] m _ _ _ .nil F1 N1 k))
-- a list of texts is handed back
noncomputable def Texts (xs : List (List UInt8)) (c : Act) (v : Value) (nw : Led) : Prop := ∃ l vs, v = .ref l ∧ nw = (l, lst vs 0) :: c.news ∧ (∀ p ∈ c.news, p.1 < l) ∧ AllOk c (xs.map .byt) vs
theorem texts_same {xs : List (List UInt8)} (c c' : Act) (v : Value) (nw : Led) (_ : c'.w = c.w) (h1 : c'.news = c.news) (h2 : c'.base = c.base) (h : Texts xs c' v nw) : Texts xs c v nw := by
  obtain ⟨l, vs, h3, h4, h5, h6⟩ := h
  exact ⟨l, vs, h3, h1 ▸ h4, h1 ▸ h5, all_same h1.symm h2.symm h6⟩
theorem EvN.list {es : List PySem.Expr} {xs : List (List UInt8)} (h : EvL (S.env c) c Γ es (xs.map .byt)) (hz : xs.length ≤ 100) : EvN (S.env c) c Γ (.List es pos) (Texts xs c) := fun m s Q E G F N k =>
  List_ (h.args m s _ _ G F N fun vs _ _ F1 N1 hvs => newList_K F1 N1 (fun l h' F2 N2 hl => k _ _ h' _ F2 N2 ⟨l, vs, rfl, rfl, hl, hvs⟩) (by rw [hvs.length, List.length_map, sizeLine_eq]; (first | lia | omega)))
theorem law_texts_r : Does 1 219 [] (Texts textsL) := by
  refine does_fn (lev := 0) (xs := []) (fun P => by exact rfl) (fun P => by k_is) (fun s => BindsTo.of_eq rfl) (fun _ h => nomatch h) rfl rfl rfl (by decide) texts_same ?_
  intro c ok
  refine Ex.retN ?_
  refine' @EvN.list _ _ _ _ _ textsL ?_ (Nat.le_of_ble_eq_true rfl)
  exact .cons Ev.cbyt (.cons Ev.cbyt (.cons Ev.cbyt (.cons Ev.cbyt (.cons Ev.cbyt (.cons Ev.cbyt (.cons Ev.cbyt (.cons Ev.cbyt (.cons Ev.cbyt (.cons Ev.cbyt (.cons Ev.cbyt (.cons Ev.cbyt .nil)))))))))))
theorem AllOk.at {rs : List Rv} {vs : List Value} (h : AllOk c rs vs) : ∀ {k : Nat} {r : Rv}, rs[k]? = some r → ∃ v, vs[k]? = some v ∧ r.ok c v := by
  induction h with
  | nil => exact fun e => nomatch e
  | cons h1 _ ih =>
    intro k r e
    cases k with
    | zero => cases e; exact ⟨_, rfl, h1⟩
    | succ k => exact ih (k := k) e
-- an item of a made list at a known place
theorem item_led {prog : Program} {w : World} {A : Around} {E : Value → Shared → Prop} {s : Shared} {h₀ : Heap} {L : Addr} {news : Led} {value slice : PySem.Expr} {l : Addr} {vs : List Value} {n : Nat} {k : Int} {u : Tok} {v : Value} {Q : Value → Shared → Prop}
    (N : News h₀ L s.heap news) (hm : (l, lst vs n) ∈ news) (h0 : 0 ≤ k) (hhi : k < 2 ^ 63) (hx : vs[k.toNat]? = some v) (h : Q v s)
    (hs : subscripted slice false (.ref l) (.int k u) = operate [.ref l, .int k u] (getItem (.ref l) (.int k u))) :
    wpAny (model prog w) A (subscriptTail value slice (.ref l) (.int k u)) Q E s :=
  have hl : s.heap.IsList l vs.toArray := ⟨_, (N _ hm).1, rfl, n, rfl⟩
  tail_any hl.typeIs slot_list_getitem.lookup (wpAny_getItem_list hl h0 hhi (by simpa using hx) h) hs
theorem Ev.textAt {i : Int} {lp tp' : Pos} (ok : Ok S c n) (hn : 1 ≤ n) (hb : okN S (Str.ofString "_law_texts") .globalImplicit = true) (hb2 : okN S (Str.ofString "len") .globalImplicit = true) (h : ∀ nw, (∀ p ∈ c.news, p ∈ nw) → Ev (S.env (c.led nw)) (c.led nw) Γ e (.int i))
    (hs : ∀ o j, subscripted (.BinOp e .Mod (.Call (.Name (Str.ofString "len") lp) [.Call (.Name (Str.ofString "_law_texts") xp) [] [] yp] [] sp) tp) false o j = operate [o, j] (getItem o j)) :
    Ev (S.env c) c Γ (.Subscript (.Call (.Name (Str.ofString "_law_texts") cp) [] [] tp') (.BinOp e .Mod (.Call (.Name (Str.ofString "len") lp) [.Call (.Name (Str.ofString "_law_texts") xp) [] [] yp] [] sp) tp) pos) (.byt (textsL.getD (i.fmod 12).toNat [])) := fun m s Q E G F N k =>
  Subscript_ (EvN.call0 ok hb (g_texts _) (k_texts _) law_texts_r hn m s _ _ G F N fun v nw h1 tk1 F1 N1 hT => by
    obtain ⟨l, vs, rfl, rfl, hl, hvs⟩ := hT
    have ok1 := ok.led ((l, lst vs 0) :: c.news)
    have G1 : GOk (c.led ((l, lst vs 0) :: c.news)) Γ m := GOk.mono G fun p hp => .tail _ hp
    refine wpAny_BinOp (h _ (fun p hp => .tail _ hp) m _ _ _ G1 F1 N1 fun u _ _ F2 N2 ⟨t, hu⟩ => ?_)
    subst hu
    refine Call_ (Ev.blt ok1 hb2 (g_len _) b_len (by decide) m _ _ _ G1 F2 N2 fun v _ _ F3 N3 hv => ?_)
    cases hv
    refine PyProof.Rows.callWith_builtin1 (args_cons (EvN.call0 ok1 hb (g_texts _) (k_texts _) law_texts_r hn m _ _ _ G1 F3 N3 fun v nw h4 tk4 F4 N4 hT => args_nil ?_) rfl) rfl rfl
    obtain ⟨l2, us, rfl, rfl, hl2, hus⟩ := hT
    refine PyProof.Rows.len_list (items := us.toArray) ⟨_, (N4 _ (.head _)).1, rfl, _, rfl⟩ (by rw [List.size_toArray, hus.length]; decide) ?_
    have e12 : ((us.toArray.size : Nat) : Int) = 12 := by rw [List.size_toArray, hus.length]; rfl
    rw [e12]
    refine mod_int' (by decide) ?_
    have hk : 0 ≤ i.fmod 12 ∧ i.fmod 12 < 12 := by rw [Int.fmod_eq_emod_of_nonneg _ (by decide)]; (first | lia | omega)
    obtain ⟨y, hy⟩ : ∃ y, textsL[(i.fmod 12).toNat]? = some y := ⟨_, List.getElem?_eq_getElem (show (i.fmod 12).toNat < 12 by (first | lia | omega))⟩
    obtain ⟨v, hv, t2, hvy⟩ := hvs.at (k := (i.fmod 12).toNat) (r := .byt y) (by rw [List.getElem?_map, hy]; rfl)
    refine item_led N4 (.tail _ (.head _)) hk.1 (by (first | lia | omega)) hv ?_ (hs _ _)
    exact k _ h4 _ F4 (fun p hp => N4 p (.tail _ (.tail _ hp))) ⟨t2, by rw [hvy, List.getD_eq_getElem?_getD, hy]; rfl⟩)
end
section
variable {S : Fs} {c : Act} {Γ Γ' : Gam} {n : Nat} {x : Str} {pos xp yp tp sp cp : Pos} {a b e : PySem.Expr} {r ra rb r1 r2 : Rv} {k : Nat} {rest : List Stmt} {d : D} {R : Flow → (Str → Option Value) → Heap → Prop}
theorem p30 : (10 : Int) ^ Int.toNat 30 = 10 ^ 30 := rfl
theorem p29 : (10 : Int) ^ Int.toNat 29 = 10 ^ 29 := rfl
theorem bool_held {z : Int} : ∀ v, (Rv.int (z.fmod 2)).ok c v → HRel v (.bool (decide (z.fmod 2 = 1))) := by
  rintro v ⟨t, rfl⟩
  have h : HRel (.int (if decide (z.fmod 2 = 1) = true then 1 else 0) t) (.bool (decide (z.fmod 2 = 1))) := ⟨t, rfl⟩
  rw [← fmod2] at h
  exact h
theorem law_drawn_r {ns : List Int} {k : Int} (hn : ns.length ≤ 63) (h0 : 0 ≤ k) (h1 : k ≤ 20) : Does 3 240 [.scr ns, .int k] (Drawn (drawZ ns k)) := by
  refine does_fn (lev := 2) (xs := [Str.ofString "script", Str.ofString "at"]) (fun P => by exact rfl) (fun P => by k_is) (fun _ _ s => BindsTo.of_eq rfl) (by decide) rfl rfl rfl (by decide) drawn_same ?_
  intro c ok
  refine Ex.seq (Es.pair ok rfl rfl (EvT.tuple (Ev.bin (Ev.call ok rfl (g_cell _) (k_cell _) (law_cell_r hn h0 (by (first | lia | omega))) (by decide) (.cons (Ev.loc ok rfl) (.cons (Ev.loc ok rfl) .nil))) Ev.cint (Bn.mod (by decide))) (Ev.call ok rfl (g_cell _) (k_cell _) (law_cell_r (k := k + 1) hn (by (first | lia | omega)) (by (first | lia | omega))) (by decide) (.cons (Ev.loc ok rfl) (.cons (Ev.bin (Ev.loc ok rfl) Ev.cint Bn.add) .nil)))) (fun _ => rfl) (by with_unfolding_all rfl)) ?_
  have h6 := fmod6 (cellZ ns k)
  unfold drawZ
  generalize (cellZ ns k).fmod 6 = f at *
  generalize cellZ ns (k + 1) = z at *
  refine Ex.ifr (Tv.cmp (Ev.loc ok rfl) Ev.cint Bn.eq) (fun h => ?_) (fun g0 => ?_) fun _ _ => retP_next
  · rw [if_pos (beq_iff_eq.mp h)]
    exact Ex.retD (EvT.tuple Ev.cstr (Ev.to_held Ev.cint fun v hv => hv))
  rw [if_neg (beq_eq_false_iff_ne.mp g0)]
  refine Ex.ifr (Tv.cmp (Ev.loc ok rfl) Ev.cint Bn.eq) (fun h => ?_) (fun g1 => ?_) fun _ _ => retP_next
  · rw [if_pos (beq_iff_eq.mp h)]
    exact Ex.retD (EvT.tuple Ev.cstr (Ev.to_held (Ev.bin (Ev.loc ok rfl) Ev.cint (Bn.mod (by decide))) bool_held))
  rw [if_neg (beq_eq_false_iff_ne.mp g1)]
  refine Ex.ifr (Tv.cmp (Ev.loc ok rfl) Ev.cint Bn.eq) (fun h => ?_) (fun g2 => ?_) fun _ _ => retP_next
  · rw [if_pos (beq_iff_eq.mp h)]
    refine Ex.retD (EvT.tuple Ev.cstr (Ev.to_held (r := .int (if 0 < z.fmod 5 then z.fmod 3 - 1 else z.fmod (10 ^ 30) - 10 ^ 29)) (Ev.ite (Tv.cmp (Ev.bin (Ev.loc ok rfl) Ev.cint (Bn.mod (by decide))) Ev.cint Bn.gt) (fun h => Ev.int_of (if_pos (of_decide_eq_true h)).symm (Ev.bin (Ev.bin (Ev.loc ok rfl) Ev.cint (Bn.mod (by decide))) Ev.cint Bn.sub)) fun h => Ev.int_of ?_ (Ev.bin (Ev.bin (Ev.loc ok rfl) (Ev.bin Ev.cint Ev.cint (Bn.pow (by decide) (by decide) (by decide))) (Bn.mod ?_)) (Ev.bin Ev.cint Ev.cint (Bn.pow (by decide) (by decide) (by decide))) Bn.sub)) fun v hv => hv))
    · rw [if_neg (of_decide_eq_false h)]; rfl
    · rw [p30]; decide
  rw [if_neg (beq_eq_false_iff_ne.mp g2)]
  refine Ex.ifr (Tv.cmp (Ev.loc ok rfl) Ev.cint Bn.eq) (fun h => ?_) (fun g3 => ?_) fun _ _ => retP_next
  · rw [if_pos (beq_iff_eq.mp h)]
    exact Ex.retD (EvT.tuple Ev.cstr (Ev.to_held (Ev.textAt ok (by decide) rfl rfl (fun nw _ => Ev.loc (ok.led nw) rfl) fun _ _ => rfl) fun v hv => hv))
  rw [if_neg (beq_eq_false_iff_ne.mp g3)]
  by_cases g4 : f = 4
  · rw [if_pos g4]
    exact Ex.retD (EvT.tuple (Ev.ite (t := true) (Tv.of (by rw [g4]; rfl) (Tv.cmp (Ev.loc ok rfl) Ev.cint Bn.eq)) (fun _ => Ev.cstr) fun h => by cases h) (Ev.to_held (Ev.bin (Ev.loc ok rfl) Ev.cint (Bn.mod (by decide))) fun v hv => hv))
  · rw [if_neg g4]
    exact Ex.retD (EvT.tuple (Ev.ite (t := false) (Tv.of (by simpa using g4) (Tv.cmp (Ev.loc ok rfl) Ev.cint Bn.eq)) (fun h => by cases h) fun _ => Ev.cstr) (Ev.to_held (Ev.bin (Ev.loc ok rfl) Ev.cint (Bn.mod (by decide))) fun v hv => hv))
end
section
variable {prog : Program} {w : World} {A : Around} {E : Value → Shared → Prop} {s : Shared} {h₀ : Heap} {L : Addr} {m : Str → Option Value} {env : Env}
-- a comprehension with a test over a range that goes down by ones
theorem comp_down {ct elt iter : PySem.Expr} {x : Str} {px : Pos} {scope : Scope} {cl : List (Str × Addr)} {pos : Pos} {Q : Value → Shared → Prop} (_F : Fr h₀ L s.heap m)
    (hclos : closureFor scope env = pure cl) (hcell : ∀ y ∈ scope.names, y.2 ≠ .cell) (hkind : scope.kind = .function)
    (hnames : ∀ y ∈ scope.names, y.2 = .local → scope.names.lookup y.1 = some .local) (hx : scope.names.lookup x = some .local)
    (h : wpAny (model prog w) A (eval iter env) (fun xv s₁ => ∃ r a b t u v n news, xv = .ref r ∧ A.handled = none ∧ Fr h₀ L s₁.heap m ∧ News h₀ L s₁.heap news ∧ IsRange s₁.heap r a b (-1) t u v ∧ Builtin.Range.small a b (-1) = true ∧
      Builtin.Range.rangeSize a b (-1) = ((n : Nat) : Int) ∧ n ≤ sizeLine ∧ ∀ g, LCt.CompRestT prog w A h₀ L m env ct elt x scope cl { s₁ with heap := g } (fun _ => True) (fun i v => ∃ t, v = .int (a + (i : Int) * (-1)) t) (LCg.FinE h₀ L m { s₁ with heap := g } Q) n 0 [] news) E s)
    (hs : ∀ x, foldedSetIterable iter env x = pure x := by intro _; rfl) :
    wpAny (model prog w) A (eval (.ListComp elt [⟨.Name x px, iter, [ct], 0⟩] scope pos) env) Q E s := by
  rw [eval_ListComp]
  refine wpAny_comprehension_free (use := none) rfl hs hclos hkind hnames (wpAny_mono h (fun xv s₁ h₁ => ?_) fun _ _ e => e)
  obtain ⟨r, a, b, t, u, v, n, news, rfl, hh, F, N, hr, hsm, hn, hsz, R⟩ := h₁
  refine wpAny_pyIter_range hr hsm ?_
  refine LCt.block_T (Walks.range hh _ a (-1) n) hsz (fun i h st => ⟨_, st⟩) (fun i h h' o nw st e e' _ _ _ => by
      have st' : h.get? _ = some _ := st
      show h'.get? _ = some _
      rw [e', ← e]; exact st') hcell hkind hx (by show IsRangeIter _ _ _ _ _; rw [hn]; simpa using Heap.get?_push_size _ rfl) (fun b hb => ?_)
    (F.keeps fun _ _ e => Heap.get?_push_of_some _ e) (N.grown fun _ _ e => Heap.get?_push_of_some _ e) (Nat.ne_of_lt F.ns.lt) (next_is_new F) (fun p hp => Nat.ne_of_lt (Heap.lt_size (N p hp).1)) trivial (R _) ?_
  · rw [List.mem_singleton.mp hb]
    show s₁.heap.objs.size < (s₁.heap.push _).objs.size
    rw [Heap.size_push]; exact Nat.lt_succ_self _
  · intro D C h tk m' ys news' F' N' o1 hn hC₀ hD₀ hCL hDL hCD offC fin
    refine ⟨m', hn, fun h'' hs'' => fin D h'' tk (F'.change hs'' hCL hC₀) (fun p hp => ?_) o1⟩
    refine ⟨hs''.extBut _ _ ?_ (N' p hp).1, (N' p hp).2⟩
    rcases List.mem_cons.mp hp with rfl | hp
    · exact Ne.symm hCD
    · exact offC p hp
theorem compEnd_mono {m : Str → Option Value} {s₁ : Shared} {I C D : Addr} {oI oC oD : Obj} {S : Led → Prop} {r r' : Value → Led → Prop} (hr : ∀ y n, r y n → r' y n) {y : Value} {s₂ : Shared}
    (h : LCg.CompEnd h₀ L m s₁ I oI C oC D oD S r y s₂) : LCg.CompEnd h₀ L m s₁ I oI C oC D oD S r' y s₂ := by
  obtain ⟨h', tk, n', e, F, N, o, hS, hR⟩ := h
  exact ⟨h', tk, n', e, F, N, o, hS, hr _ _ hR⟩
theorem compT_inv {ct elt : PySem.Expr} {x : Str} {scope : Scope} {cl : List (Str × Addr)} {S : Led → Prop} {P : Nat → Value → Prop} {Fin : List Value → Led → Prop} {n : Nat} (Inv : Nat → List Value → Led → Prop)
    (step : ∀ i ys news, i < n → Inv i ys news → ∀ v I oI C oC D m₂ h tk (E' : Value → Shared → Prop), P i v → LCg.NsObj oC m₂ → m₂ x = some v → Fr h₀ L h m → News h₀ L h ((I, oI) :: (C, oC) :: (D, LCg.lst ys) :: news) → LCg.Off3 I C D news → ((@Ne Nat I C) ∧ (@Ne Nat I D) ∧ (@Ne Nat C D)) →
      wpAny (model prog w) A (isTrue ct (compEnvC scope cl C env) (eval ct (compEnvC scope cl C env))) (fun ok s' => if ok = true then
        wpAny (model prog w) A (eval elt (compEnvC scope cl C env)) (LCg.CompEnd h₀ L m { s with heap := h, toks := tk } I oI C oC D (LCg.lst ys) S (fun y news' => Inv (i + 1) (ys ++ [y]) news')) E' s'
        else LCg.CompEnd h₀ L m { s with heap := h, toks := tk } I oI C oC D (LCg.lst ys) S (fun _ news' => Inv (i + 1) ys news') Value.none s') E' { s with heap := h, toks := tk })
    (fin : ∀ ys news, Inv n ys news → Fin ys news) : ∀ k i ys news, i + k = n → Inv i ys news → LCt.CompRestT prog w A h₀ L m env ct elt x scope cl s S P Fin k i ys news
  | 0, i, ys, news, e, hI => LCt.CompRestT.zero (fin _ _ (by have : i = n := by (first | lia | omega)
                                                             rw [← this]; exact hI))
  | k + 1, i, ys, news, e, hI => LCt.CompRestT.succ fun v I oI C oC D m₂ h tk E' hP hC hx F N off ne =>
    wpAny_mono (step i ys news (by (first | lia | omega)) hI v I oI C oC D m₂ h tk E' hP hC hx F N off ne) (fun ok s' q => by
      cases ok with
      | true =>
        simp only [if_true] at q ⊢
        exact wpAny_mono q (fun _ _ z => compEnd_mono (fun y n' hn => compT_inv Inv step fin k (i + 1) _ _ (by (first | lia | omega)) hn) z) fun _ _ z => z
      | false =>
        simp only [Bool.false_eq_true, if_false] at q ⊢
        exact compEnd_mono (fun y n' hn => compT_inv Inv step fin k (i + 1) _ _ (by (first | lia | omega)) hn) q) fun _ _ z => z
theorem comp_inv {elt : PySem.Expr} {x : Str} {scope : Scope} {cl : List (Str × Addr)} {S : Led → Prop} {P : Nat → Value → Prop} {Fin : List Value → Led → Prop} {n : Nat} (Inv : Nat → List Value → Led → Prop)
    (step : ∀ i ys news, i < n → Inv i ys news → ∀ v I oI C oC D m₂ h tk (E' : Value → Shared → Prop), P i v → LCg.NsObj oC m₂ → m₂ x = some v → Fr h₀ L h m → News h₀ L h ((I, oI) :: (C, oC) :: (D, LCg.lst ys) :: news) → LCg.Off3 I C D news → ((@Ne Nat I C) ∧ (@Ne Nat I D) ∧ (@Ne Nat C D)) →
      wpAny (model prog w) A (eval elt (compEnvC scope cl C env)) (LCg.CompEnd h₀ L m { s with heap := h, toks := tk } I oI C oC D (LCg.lst ys) S (fun y news' => Inv (i + 1) (ys ++ [y]) news')) E' { s with heap := h, toks := tk })
    (fin : ∀ ys news, Inv n ys news → Fin ys news) : ∀ k i ys news, i + k = n → Inv i ys news → LCg.CompRest prog w A h₀ L m env elt x scope cl s S P Fin k i ys news
  | 0, i, ys, news, e, hI => LCg.CompRest.zero (fin _ _ (by have : i = n := by (first | lia | omega)
                                                            rw [← this]; exact hI))
  | k + 1, i, ys, news, e, hI => LCg.CompRest.succ fun v I oI C oC D m₂ h tk E' hP hC hx F N off ne =>
    wpAny_mono (step i ys news (by (first | lia | omega)) hI v I oI C oC D m₂ h tk E' hP hC hx F N off ne) (fun _ _ z => compEnd_mono (fun y n' hn => comp_inv Inv step fin k (i + 1) _ _ (by (first | lia | omega)) hn) z) fun _ _ z => z
theorem compP_inv {elt : PySem.Expr} {x x₂ : Str} {scope : Scope} {cl : List (Str × Addr)} {S : Led → Prop} {P : Nat → Value → Prop} {Fin : List Value → Led → Prop} {n : Nat} (Inv : Nat → List Value → Led → Prop)
    (step : ∀ i ys news, i < n → Inv i ys news → ∀ v, P i v → ∃ (t : Addr) (ot : Obj) (v₁ v₂ : Value) (nt : Nat), v = .ref t ∧ (t, ot) ∈ news ∧ ot.cls = .type "tuple" ∧ ot.data = .seq #[v₁, v₂] nt ∧
      ∀ I oI C oC D m₂ h tk (E' : Value → Shared → Prop), LCg.NsObj oC m₂ → m₂ x = some v₁ → m₂ x₂ = some v₂ → Fr h₀ L h m → News h₀ L h ((I, oI) :: (C, oC) :: (D, LCg.lst ys) :: news) → LCg.Off3 I C D news → ((@Ne Nat I C) ∧ (@Ne Nat I D) ∧ (@Ne Nat C D)) →
      wpAny (model prog w) A (eval elt (compEnvC scope cl C env)) (LCg.CompEnd h₀ L m { s with heap := h, toks := tk } I oI C oC D (LCg.lst ys) S (fun y news' => Inv (i + 1) (ys ++ [y]) news')) E' { s with heap := h, toks := tk })
    (fin : ∀ ys news, Inv n ys news → Fin ys news) : ∀ k i ys news, i + k = n → Inv i ys news → LCp.CompRestP prog w A h₀ L m env elt x x₂ scope cl s S P Fin k i ys news
  | 0, i, ys, news, e, hI => LCp.CompRestP.zero (fin _ _ (by have : i = n := by (first | lia | omega)
                                                             rw [← this]; exact hI))
  | k + 1, i, ys, news, e, hI => LCp.CompRestP.succ fun v hP => by
    obtain ⟨t, ot, v₁, v₂, nt, e1, e2, e3, e4, h5⟩ := step i ys news (by (first | lia | omega)) hI v hP
    exact ⟨t, ot, v₁, v₂, nt, e1, e2, e3, e4, fun I oI C oC D m₂ h tk E' hC hx hx2 F N off ne =>
      wpAny_mono (h5 I oI C oC D m₂ h tk E' hC hx hx2 F N off ne) (fun _ _ z => compEnd_mono (fun y n' hn => compP_inv Inv step fin k (i + 1) _ _ (by (first | lia | omega)) hn) z) fun _ _ z => z⟩
end
section
variable {S : Fs} {V : Env} {c : Act} {Γ Γ' : Gam} {n : Nat} {x y : Str} {pos xp yp tp sp cp : Pos} {a b e it elt : PySem.Expr} {r ra rb r1 r2 : Rv} {k : Nat} {rest body : List Stmt} {d : D} {R : Flow → (Str → Option Value) → Heap → Prop} {sc : Scope} {cl : List (Str × Addr)} {C A9 : Addr} {o : Obj} {v : Value} {m₂ : Str → Option Value}
-- names within a comprehension
theorem Ev.own (hm : (C, o) ∈ c.news) (hC : LCg.NsObj o m₂) (hx : m₂ x = some v) (hr : r.ok c v) (hk : (compEnvC sc cl C (S.env c)).scope.kind = .function) (hl : (compEnvC sc cl C (S.env c)).kindOf x = some .local) (hd : (x == Str.ofString "__debug__") = false) : Ev (compEnvC sc cl C (S.env c)) c Γ (.Name x pos) r := fun m s Q E G F N k =>
  LCgL.ld_own N hm hC hx (k v s.heap s.toks F N hr) hk hl hd
theorem Ev.ccell (hm : (A9, o) ∈ c.news) (hd : o.data = .cell (some v)) (hr : r.ok c v) (hc : cl.lookup x = some A9) (hk : (compEnvC sc cl C (S.env c)).scope.kind = .function) (hl : (compEnvC sc cl C (S.env c)).kindOf x = some .cell) (hb : (x == Str.ofString "__debug__") = false) : Ev (compEnvC sc cl C (S.env c)) c Γ (.Name x pos) r := fun m s Q E G F N k =>
  lcf_cell N hc hm hd (k v s.heap s.toks F N hr) hk hl hb
theorem Ev.cglob (ok : Ok S c n) (h : nsIn (KK c) mainGlobals x = some (some v)) (hk : (compEnvC sc cl C (S.env c)).scope.kind = .function) (hl : (compEnvC sc cl C (S.env c)).kindOf x = some .globalImplicit) (hb : (x == Str.ofString "__debug__") = false) : Ev (compEnvC sc cl C (S.env c)) c Γ (.Name x pos) (.ex v) := fun m s Q E G F N k =>
  LCgL.ld_global F ok.X ok.T h (k v s.heap s.toks F N rfl) rfl hk hl hb
theorem Ev.cblt (ok : Ok S c n) (h : nsIn (KK c) mainGlobals x = some none) (hv : bootBuiltins x = some v) (hn : x ≠ Str.ofString "__name__") (hk : (compEnvC sc cl C (S.env c)).scope.kind = .function) (hl : (compEnvC sc cl C (S.env c)).kindOf x = some .globalImplicit) (hb : (x == Str.ofString "__debug__") = false) : Ev (compEnvC sc cl C (S.env c)) c Γ (.Name x pos) (.ex v) := fun m s Q E G F N k =>
  LCgL.ld_built F ok.X ok.T h hv hn (k v s.heap s.toks F N rfl) rfl rfl hk hl hb
-- a captured name in its own frame
theorem Ev.cell (ok : Ok S c n) (hb : okN S x .cell = true) (hc : S.cl.lookup x = some A9) (hm : (A9, o) ∈ c.news) (hd : o.data = .cell (some v)) (hr : r.ok c v) : Ev (S.env c) c Γ (.Name x pos) r := fun m s Q E G F N k =>
  nameX_C N hc hm hd (k v s.heap s.toks F N hr) ok.hk (okN_1 hb) (okN_2 hb)
-- a new range
noncomputable def EvRg (V : Env) (c : Act) (Γ : Gam) (e : PySem.Expr) (i j st : Int) : Prop :=
  ∀ m (s : Shared) (Q E : Value → Shared → Prop), GOk c Γ m → Fr c.h₀ c.L s.heap m → News c.h₀ c.L s.heap c.news →
    (∀ r t u v h' tk', Fr c.h₀ c.L h' m → News c.h₀ c.L h' c.news → IsRange h' r i j st t u v → Q (.ref r) { s with heap := h', toks := tk' }) → wpAny (model PR c.w) c.A (eval e V) Q E s
theorem g_range (P : Params) : nsIn (Mine.KF P) mainGlobals (Str.ofString "range") = some none := by k_is
theorem b_range : bootBuiltins (Str.ofString "range") = some (.type "range") := by boot_fast
theorem EvRg.one {i : Int} (ok : Ok S c n) (hb : okN S (Str.ofString "range") .globalImplicit = true) (h : EvL (S.env c) c Γ [a] [.int i]) : EvRg (S.env c) c Γ (.Call (.Name (Str.ofString "range") xp) [a] [] pos) 0 i 1 := fun m s Q E G F N k =>
  Call_ (Ev.blt ok hb (g_range _) b_range (by decide) m s _ _ G F N fun v _ _ F1 N1 hv => by
    cases hv
    refine PyProof.Rows.callWith_type1 (h.args m _ _ _ G F1 N1 fun vs _ _ F2 N2 hvs => ?_) (h.head _) (h.tail _)
    cases hvs with
    | cons h1 h2 =>
      cases h2
      obtain ⟨_, rfl⟩ := h1
      exact range1_rows F2 N2 fun h' tk t u v hR F3 N3 _ => k _ t u v h' tk F3 N3 hR)
theorem EvRg.two {i j : Int} (ok : Ok S c n) (hb : okN S (Str.ofString "range") .globalImplicit = true) (h : EvL (S.env c) c Γ [a, b] [.int i, .int j]) : EvRg (S.env c) c Γ (.Call (.Name (Str.ofString "range") xp) [a, b] [] pos) i j 1 := fun m s Q E G F N k =>
  Call_ (Ev.blt ok hb (g_range _) b_range (by decide) m s _ _ G F N fun v _ _ F1 N1 hv => by
    cases hv
    refine PyProof.Rows.callWith_type1 (h.args m _ _ _ G F1 N1 fun vs _ _ F2 N2 hvs => ?_) (h.head _) (h.tail _)
    cases hvs with
    | cons h1 h2 =>
      cases h2 with
      | cons h3 h4 =>
        cases h4
        obtain ⟨_, rfl⟩ := h1
        obtain ⟨_, rfl⟩ := h3
        exact range2_rows F2 N2 fun h' tk t u v hR F3 N3 _ => k _ t u v h' tk F3 N3 hR)
theorem EvRg.three {i j st : Int} (ok : Ok S c n) (hb : okN S (Str.ofString "range") .globalImplicit = true) (h : EvL (S.env c) c Γ [a, b, e] [.int i, .int j, .int st]) (h0 : st ≠ 0) (hp : st.natAbs < 1073741824) : EvRg (S.env c) c Γ (.Call (.Name (Str.ofString "range") xp) [a, b, e] [] pos) i j st := fun m s Q E G F N k =>
  Call_ (Ev.blt ok hb (g_range _) b_range (by decide) m s _ _ G F N fun v _ _ F1 N1 hv => by
    cases hv
    refine PyProof.Rows.callWith_type1 (h.args m _ _ _ G F1 N1 fun vs _ _ F2 N2 hvs => ?_) (h.head _) (h.tail _)
    cases hvs with
    | cons h1 h2 =>
      cases h2 with
      | cons h3 h4 =>
        cases h4 with
        | cons h5 h6 =>
          cases h6
          obtain ⟨_, rfl⟩ := h1
          obtain ⟨_, rfl⟩ := h3
          obtain ⟨_, rfl⟩ := h5
          exact range3_rows F2 N2 h0 (fun h' tk t u v hR F3 N3 _ => k _ t u v h' tk F3 N3 hR) (Or.inl (PyProof.noPylong_small hp)))
-- the ledger within a comprehension
noncomputable abbrev inC (I C D : Addr) (oI oC : Obj) (ys : List Value) (nw : Led) : Led := (I, oI) :: (C, oC) :: (D, LCg.lst ys) :: nw
-- what a turn of a comprehension leaves behind
noncomputable def CEnd (I C D : Addr) (oI oC : Obj) (ys : List Value) (J : List Value → Led → Prop) (y : Value) (nw' : Led) : Prop := ∃ nx, (∀ p ∈ inC I C D oI oC ys nx, p ∈ nw') ∧ LCg.Off3 I C D nx ∧ J (ys ++ [y]) nx
theorem CEnd.same {I C D : Addr} {oI oC : Obj} {ys : List Value} {J : List Value → Led → Prop} {y : Value} {nw : Led} (off : LCg.Off3 I C D nw) (h : J (ys ++ [y]) nw) : CEnd I C D oI oC ys J y (inC I C D oI oC ys nw) := ⟨nw, fun _ h => h, off, h⟩
-- a comprehension over a range, put into a name
theorem Ex.compR {i j : Int} {K : Nat} (Inv : Nat → List Value → Led → Prop) (ok : Ok S c n) (hr : EvRg (S.env c) c Γ it i j 1)
    (hsw : swapsWith (.ListComp elt [⟨.Name x xp, it, [], 0⟩] sc cp) (some (.Name y yp)) sp.line (S.env c) = pure true)
    (hclos : closureFor sc (S.env c) = pure cl) (hcell : ∀ z ∈ sc.names, z.2 ≠ .cell) (hkind : sc.kind = .function)
    (hnames : ∀ z ∈ sc.names, z.2 = .local → sc.names.lookup z.1 = some .local) (hx : sc.names.lookup x = some .local) (hy : okN S y .local = true)
    (hs : ∀ x, foldedSetIterable it (S.env c) x = pure x)
    (hsm : Builtin.Range.small i j 1 = true) (hn : Builtin.Range.rangeSize i j 1 = (K : Int)) (hK : K ≤ 100) (h0 : Inv 0 [] c.news)
    (step : ∀ q ys nw, q < K → Inv q ys nw → ∀ I C D oI oC m₂ t, LCg.NsObj oC m₂ → m₂ x = some (.int (i + (q : Int)) t) → LCg.Off3 I C D nw →
      EvN (compEnvC sc cl C (S.env c)) (c.led (inC I C D oI oC ys nw)) [] elt (CEnd I C D oI oC ys (Inv (q + 1))))
    (hsub : ∀ ys nw, Inv K ys nw → ∀ p ∈ c.news, p ∈ nw)
    (fin : ∀ ys nw D, Inv K ys nw → Ex S (c.led ((D, LCg.lst ys) :: nw)) ((y, .ex (.ref D)) :: Γ) rest R) :
    Ex S c Γ (.Assign [.Name y yp] (.ListComp elt [⟨.Name x xp, it, [], 0⟩] sc cp) sp :: rest) R := fun m s Q E O G F N kk =>
  wpAny_execs_cons (LCg.Assign_ListComp_U F rfl hsw hclos hcell hkind hnames hx (okN_1 hy) (by show (S.cs.kind == .class || (S.cs.kind == .module && c.L != mainGlobals)) = false; rw [ok.hk]; rfl)
    (hr m s _ _ G F N fun r t u v h' tk' F1 N1 hR => LCg.CompSrc.range ok.hh F1 N1 hR hsm hn (by rw [sizeLine_eq]; (first | lia | omega)) fun g =>
      comp_inv (n := K) Inv (fun q ys nw hq hI v I oI C oC D m₂ h tk E' ⟨t, hv⟩ hC hx2 F2 N2 off ne =>
        step q ys nw hq hI I C D oI oC m₂ t hC (hv ▸ hx2) off m _ _ _ (fun _ _ e => by cases e) F2 N2 fun y nw' h' tk' F3 N3 ⟨nx, hn, ho, hJ⟩ => LCg.CompEnd.intro F3 N3 nx hn ho trivial hJ)
      (by
        intro ys nw hI DD h tk F3 N3 o3
        exact fin ys nw DD hI _ _ _ _ O ((GOk.mono (nw := (DD, LCg.lst ys) :: nw) G fun p hp => List.mem_cons_of_mem _ (hsub ys nw hI p hp)).set (r := .ex (.ref DD)) rfl) F3 N3 kk) K 0 [] _ (Nat.zero_add _) h0) hs)
end
theorem givesR_cell {lev : Nat} {f : Addr} {rs : List Rv} {r : Rv} {name qual : Str} {params : Arguments} {fbody : List Stmt} {scope : Scope} {dV kV doc pm cdv ct oc : Value} {an od : Option Addr} {osl : Array (Option Value)} {xs : List Str}
    (hK : ∀ P, List.lookup f (Mine.KF P) = some { cls := oc, dict := od, data := Data.func (fnOf name qual params fbody scope dV kV doc pm an cdv ct), slots := osl })
    (hC : ∀ P, codeIn (Mine.KF P) cdv qual = true)
    (hb : AllV rs.length fun vs => (∀ s, BindsTo s (fnOf name qual params fbody scope dV kV doc pm an cdv ct) { pos := vs, kw := [] } (xs.zip vs)) ∧ ((xs.zip vs).all fun y => scope.names.lookup y.1 == some .local || scope.names.lookup y.1 == some .cell) = true)
    (hnd : ((cellsFrom 0 scope.names []).map (·.1)).Nodup) (c2 : scope.isCoroutine = false) (c3 : scope.isGenerator = false) (c4 : scope.kind = ScopeKind.function)
    (D : ∀ c vs cells, AllOk c rs vs → CellsAre (bindC (envOfC qual scope c.L f cdv).kindOf (xs.zip vs) fun _ => none) (cellsFrom (c.L + 1) scope.names []) cells → (∀ p ∈ c.news, p.1 < c.L) → Ok ⟨qual, scope, f, cdv, cellsFrom (c.L + 1) scope.names []⟩ (c.led (cells ++ c.news)) lev →
      Ex ⟨qual, scope, f, cdv, cellsFrom (c.L + 1) scope.names []⟩ (c.led (cells ++ c.news)) [] fbody (Ret c r)) : GivesR (lev + 1) f rs r := fun S c ok vs m s Q E hvs F N k =>
  wpAny_call (by
    have hbs := AllV.at hb vs hvs.length
    refine code_defC (binds := xs.zip vs) ok.B F ok.X N ok.T ok.fr rfl ok.hk (hK _) (hC _) (by have := ok.hd; (first | lia | omega)) (hbs.1 s) hbs.2 hnd ?_ c2 c3 c4
    intro g L' h₁ tk cells FG F' N' hcs B' X' T' hlow
    let c' : Act := { c with A := c.A.deeper (envOfC qual scope L' f cdv), outer := S.env c :: c.outer, A₀ := c.A, h₀ := g, L := L' }
    have ok' : Ok ⟨qual, scope, f, cdv, cellsFrom (L' + 1) scope.names []⟩ (c'.led (cells ++ c.news)) lev := ⟨B', X', T', by show (Around.deeper _ _).frames = _; rw [Around.frames_deeper ok.fr]; rfl, ok.hh, c4, by have := ok.hd; show c.A.depth + 1 + lev < _; (first | lia | omega), by have := ok.hu; show c.A.units + 3 + 20 * lev < _; (first | lia | omega)⟩
    have hvs' : AllOk c' rs vs := all_same (c := c) (c' := c') rfl rfl hvs
    refine D c' vs cells hvs' hcs hlow ok' _ _ _ _ (by passes_own) (fun _ _ e => by cases e) F' N' ?_
    intro fl h' tk' m' F2 hr
    obtain ⟨v, rfl, N2, hv⟩ := hr
    have N3 : News g L' h' c.news := N2
    exact leaveK_ F2 N3 fun F3 N3 => k v h' tk' F3 N3 (rv_same (c := c') (c' := c) rfl rfl hv))
section
variable {S : Fs} {V : Env} {c : Act} {Γ Γ' : Gam} {n : Nat} {x y : Str} {pos xp yp tp sp cp : Pos} {a b e it elt ct : PySem.Expr} {r ra rb r1 r2 : Rv} {k k' : Nat} {rest body : List Stmt} {d : D} {R : Flow → (Str → Option Value) → Heap → Prop} {sc : Scope} {cl : List (Str × Addr)} {C ac : Addr} {o oc : Obj} {v : Value} {m₂ : Str → Option Value}
-- a name and a captured name at once
theorem Ex.pairC {i j : Int} {vo : Option Value} {g : Obj → Led} (ok : Ok S c n) (hx : okN S x .local = true) (hy : okN S y .cell = true) (hc : S.cl.lookup y = some ac) (U : UpdF ac oc c.news g) (hd : oc.data = .cell vo) (hf : Γ.all (fun p => p.2.flat) = true)
    (h : EvT S c Γ e (.int i) (.int j)) (h1 : ∀ env, swapsWithSole [.Tuple [.Name x sp, .Name y yp] k' tp] e pos.line env = pure false)
    (h2 : swappedStores [.Tuple [.Name x sp, .Name y yp] k' tp] e (S.env c) = pure none)
    (h3 : ∀ o' t, o'.data = .cell (some (.int j t)) → Ex S (c.led (g o')) ((x, .int i) :: Γ) rest R) :
    Ex S c Γ (.Assign [.Tuple [.Name x sp, .Name y yp] k' tp] e pos :: rest) R := fun m s Q E O G F N kk =>
  wpAny_execs_cons (Assign_Tuple (h m s _ _ G F N fun a9 v1 v2 h' tk' F1 N1 l hv1 hv2 => by
    obtain ⟨t, rfl⟩ := hv2
    refine unpackN_ (items := #[v1, .int j t]) F1 N1 ⟨_, (N1 _ (.head _)).1, rfl, 0, rfl⟩ ok.hh rfl rfl fun h2 F2 N2 => ?_
    refine assignInOrder_cons (assign_Name (storeX_L F2 (news := c.news) (fun p hp => N2 p (.tail _ hp)) (fun h3' F3 N3 => ?_) ok.hk (okN_1 hx)))
    refine assignInOrder_cons (assign_Name (storeX_C F3 N3 hc U hd (fun h4 o' F4 N4 hd3 => ?_) ok.hk (okN_1 hy)))
    exact assignInOrder_nil (h3 o' t hd3 _ _ _ _ O ((GOk.flat _ G hf).set (r := .int i) hv1) F4 N4 kk)) (h1 _) h2)
-- a comprehension with a test over a range that goes down by ones
theorem EvN.compD {i j : Int} {K : Nat} (Inv : Nat → List Value → Prop) (ok : Ok S c n) (hr : EvRg (S.env c) c Γ it i j (-1))
    (hclos : closureFor sc (S.env c) = pure cl) (hcell : ∀ z ∈ sc.names, z.2 ≠ .cell) (hkind : sc.kind = .function)
    (hnames : ∀ z ∈ sc.names, z.2 = .local → sc.names.lookup z.1 = some .local) (hx : sc.names.lookup x = some .local)
    (hs : ∀ x, foldedSetIterable it (S.env c) x = pure x)
    (hsm : Builtin.Range.small i j (-1) = true) (hn : Builtin.Range.rangeSize i j (-1) = (K : Int)) (hK : K ≤ 100) (h0 : Inv 0 [])
    (step : ∀ q ys, q < K → Inv q ys → ∀ I C D oI oC m₂ t, LCg.NsObj oC m₂ → m₂ x = some (.int (i + (q : Int) * (-1)) t) →
      ∃ b w, Tv (compEnvC sc cl C (S.env c)) (c.led (inC I C D oI oC ys c.news)) [] ct b ∧ (b = true → Ev (compEnvC sc cl C (S.env c)) (c.led (inC I C D oI oC ys c.news)) [] elt w ∧ ∀ v, w.ok c v → Inv (q + 1) (ys ++ [v])) ∧ (b = false → Inv (q + 1) ys) ∧ w.flat = true) :
    EvN (S.env c) c Γ (.ListComp elt [⟨.Name x xp, it, [ct], 0⟩] sc cp) (fun v nw => ∃ D ys, v = .ref D ∧ nw = (D, LCg.lst ys) :: c.news ∧ Inv K ys) := fun m s Q E G F N kk =>
  comp_down F hclos hcell hkind hnames hx
    (hr m s _ _ G F N fun r t u v h' tk' F1 N1 hR => ⟨r, i, j, t, u, v, K, c.news, rfl, ok.hh, F1, N1, hR, hsm, hn, by rw [sizeLine_eq]; (first | lia | omega), fun g =>
      compT_inv (n := K) (fun q ys nw => nw = c.news ∧ Inv q ys) (by
        rintro q ys nw hq ⟨rfl, hI⟩ v I oI C oC D m₂ h tk E' ⟨t, hv⟩ hC hx2 F2 N2 off ne
        obtain ⟨b, w, h1, h2, h3, h4⟩ := step q ys hq hI I C D oI oC m₂ t hC (hv ▸ hx2)
        refine h1 m _ _ _ _ rfl (fun _ _ e => by cases e) F2 N2 fun h' tk' F3 N3 => ?_
        cases b with
        | true =>
          simp only [if_true]
          exact (h2 rfl).1 m _ _ _ (fun _ _ e => by cases e) F3 N3 fun v h4' tk4 F4 N4 hv => LCg.CompEnd.intro F4 N4 c.news (fun _ h => h) off trivial ⟨rfl, (h2 rfl).2 v (Rv.ok_flat (c := c.led (inC I C D oI oC ys c.news)) (nw := c.news) h4 hv)⟩
        | false =>
          simp only [Bool.false_eq_true, if_false]
          exact LCg.CompEnd.intro F3 N3 c.news (fun _ h => h) off trivial ⟨rfl, h3 rfl⟩)
      (by
        rintro ys nw ⟨rfl, hI⟩ DD h tk F3 N3 o3
        exact kk _ _ h tk F3 N3 ⟨DD, ys, rfl, rfl, hI⟩) K 0 [] _ (Nat.zero_add _) ⟨rfl, h0⟩⟩) hs
end
theorem AllObj.of {ws : List (Addr × String)} {k : Led → Prop} (h : ∀ its, Objs ws its → k its) : AllObj ws k := by
  induction ws generalizing k with
  | nil => exact h [] trivial
  | cons w ws ih => exact fun o ho => ih fun its hi => h _ ⟨⟨rfl, ho⟩, hi⟩
theorem objs_hi {I : Addr} {ws : List (Addr × String)} (hw : ∀ w ∈ ws, I ≤ w.1) : ∀ {its : Led}, Objs ws its → ∀ q ∈ its, I ≤ q.1 := by
  intro its hi q hq
  have h1 : q.1 ∈ its.map (·.1) := List.mem_map_of_mem hq
  rw [hi.map] at h1
  obtain ⟨w, h2, h3⟩ := List.mem_map.mp h1
  exact h3 ▸ hw w h2
-- a target takes a value
noncomputable def Am (S : Fs) (c : Act) (Γ : Gam) (tg : PySem.Expr) (p : Value → Heap → Prop) (Γ' : Gam) : Prop :=
  ∀ m (s : Shared) v (Q : Unit → Shared → Prop) (E : Value → Shared → Prop), GOk c Γ m → Fr c.h₀ c.L s.heap m → News c.h₀ c.L s.heap c.news → p v s.heap →
    (∀ m' h' tk', Fr c.h₀ c.L h' m' → News c.h₀ c.L h' c.news → GOk c Γ' m' → Q () { s with heap := h', toks := tk' }) → wpAny (model PR c.w) c.A (assign tg (S.env c) v) Q E s
-- the end of a turn
noncomputable def TurnI (c : Act) {σ : Type} (its nw : Led) (Γs : σ → Gam) (P : List Itm → σ → Prop) (r : List Itm) (f : Flow) (m : Str → Option Value) (h : Heap) : Prop := f = .next ∧ News c.h₀ c.L h (its ++ nw) ∧ ∃ st, P r st ∧ GOk (c.led (its ++ nw)) (Γs st) m
section
variable {S : Fs} {V : Env} {c : Act} {Γ Γ' : Gam} {n : Nat} {x y : Str} {pos xp yp tp sp cp : Pos} {a b e it elt ct tg : PySem.Expr} {r ra rb r1 r2 : Rv} {k k' : Nat} {rest body : List Stmt} {d : D} {R : Flow → (Str → Option Value) → Heap → Prop} {o oc : Obj} {v : Value} {m₂ : Str → Option Value} {σ : Type} {Γs : σ → Gam} {P : List Itm → σ → Prop}
theorem Am.name {p : Value → Heap → Prop} (ok : Ok S c n) (hx : okN S x .local = true) (hr : ∀ v h, p v h → r.ok c v) : Am S c Γ (.Name x xp) p ((x, r) :: Γ) := fun m s v Q E G F N hp k =>
  assign_Name (storeX_L F N (fun h' F' N' => k _ h' _ F' N' (G.set (hr _ _ hp))) ok.hk (okN_1 hx))
theorem items_E {Q : Flow → Shared → Prop} {E : Value → Shared → Prop} {s : Shared} {ws : List (Addr × String)} {keep : Led} {I : Addr} (hk : SubL keep c.news) (hlo : ∀ p ∈ c.news, p.1 < I) (hws : ∀ w ∈ ws, I ≤ w.1) (O : PassesOwn (model PR c.w) c.A (S.env c) E) (hf : ∀ st, (Γs st).all (fun p => p.2.flat) = true)
    (turn : ∀ a r st its, P (a :: r) st → Objs ws its → ∃ Γ1, Am S (c.led (its ++ c.news)) (Γs st) tg a.Is Γ1 ∧ Ex S (c.led (its ++ c.news)) Γ1 body (TurnI c its c.news Γs P r))
    (fin : ∀ st m h tk, P [] st → GOk c (Γs st) m → Fr c.h₀ c.L h m → News c.h₀ c.L h c.news → Q .next { s with heap := h, toks := tk }) :
    ∀ xs st m, P xs st → GOk c (Γs st) m → ItemsRest PR c.w c.A E c.h₀ (S.env c) tg body Q s ws keep xs m c.news := by
  intro xs
  induction xs with
  | nil => exact fun st m hP G => ItemsRest.zero fun h tk F N => fin st m h tk hP G F N
  | cons a xs ih =>
    intro st m hP G v h tk ha F
    refine AllObj.of fun its hi N => ?_
    obtain ⟨Γ1, h1, h2⟩ := turn a xs st its hP hi
    refine h1 m { s with heap := h, toks := tk } v _ _ (GOk.flat _ G (hf st)) F N ha fun m1 h1' tk1 F1 N1 G1 => h2 m1 _ _ _ O G1 F1 N1 fun f h' tk' m' F2 hr => ?_
    obtain ⟨rfl, N2, st2, hP2, G2⟩ := hr
    exact ⟨h', tk', m', c.news, rfl, F2, N2, fun p hp q hq => Nat.ne_of_lt (Nat.lt_of_lt_of_le (hlo p hp) (objs_hi hws hi q hq)), hk, ih st2 m' hP2 (GOk.flat (c := c.led (its ++ c.news)) c.news G2 (hf st2))⟩
-- a loop over a new list
theorem Es.forList (P : List Itm → σ → Prop) (ok : Ok S c n) {ys : List Value → Prop} (h : EvN (S.env c) c Γ it fun v nw => ∃ D vs, v = .ref D ∧ nw = (D, LCg.lst vs) :: c.news ∧ ys vs) (st₀ : σ) (hP : ∀ vs, ys vs → P (vs.map .val) st₀) (hG : GSub Γ (Γs st₀)) (hf : ∀ st, (Γs st).all (fun p => p.2.flat) = true)
    (hs : ∀ x, foldedSetIterable it (S.env c) x = pure x)
    (turn : ∀ a r st nw, P (a :: r) st → (∀ p ∈ c.news, p ∈ nw) → ∃ Γ1, Am S (c.led nw) (Γs st) tg a.Is Γ1 ∧ Ex S (c.led nw) Γ1 body (fun f m h => f = .next ∧ News c.h₀ c.L h nw ∧ ∃ st, P r st ∧ GOk (c.led nw) (Γs st) m)) :
    Es S c Γ (.For tg it body [] pos) (fun f m h => f = .next ∧ News c.h₀ c.L h c.news ∧ ∃ st, P [] st ∧ GOk c (Γs st) m) := fun m s Q E O G F N kk =>
  For_turns F (h m s _ _ G F N fun v nw h' tk' F1 N1 ⟨D, vs, e1, e2, hy⟩ => by
    subst e1 e2
    refine iter_listTurns ok.hh F1 N1 (List.mem_cons_self) rfl rfl fun I hI => ?_
    exact items_E (s := { s with heap := h', toks := tk' }) (c := c.led ((D, LCg.lst vs) :: c.news)) (ws := [(I, "list_iterator")]) (keep := [(D, LCg.lst vs)]) (by exact ⟨List.mem_cons_self, trivial⟩) hI (by intro w hw; rw [List.mem_singleton.mp hw]; exact Nat.le_refl _) O hf (fun a r st its hP hi => turn a r st _ hP fun p hp => List.mem_append_right _ (List.mem_cons_of_mem _ hp)) (fun st m h tk hP G F N => kk .next h tk m F ⟨rfl, fun p hp => N p (List.mem_cons_of_mem _ hp), st, hP, GOk.flat (c := c.led ((D, LCg.lst vs) :: c.news)) c.news G (hf st)⟩) _ st₀ m (hP vs hy) (GOk.flat (c := c) _ (G.sub hG) (hf st₀))) hs O
theorem g_zip (P : Params) : nsIn (Mine.KF P) mainGlobals (Str.ofString "zip") = some none := by k_is
theorem b_zip : bootBuiltins (Str.ofString "zip") = some (.type "zip") := by boot_fast
-- a loop over two lists at once
theorem Es.forZip (P : List Itm → σ → Prop) {l1 l2 : Addr} {xs ys : List Value} {n1 n2 : Nat} {tgs : List PySem.Expr} (ok : Ok S c n) (hb : okN S (Str.ofString "zip") .globalImplicit = true) (h : EvL (S.env c) c Γ [a, b] [.ex (.ref l1), .ex (.ref l2)]) (hm1 : (l1, lst xs n1) ∈ c.news) (hm2 : (l2, lst ys n2) ∈ c.news)
    (st₀ : σ) (hP : P (zipItems xs ys) st₀) (hG : GSub Γ (Γs st₀)) (hf : ∀ st, (Γs st).all (fun p => p.2.flat) = true)
    (hs : ∀ x, foldedSetIterable (.Call (.Name (Str.ofString "zip") xp) [a, b] [] yp) (S.env c) x = pure x)
    (turn : ∀ a r st nw, P (a :: r) st → (∀ p ∈ c.news, p ∈ nw) → ∃ Γ1, Am S (c.led nw) (Γs st) (.Tuple tgs k tp) a.Is Γ1 ∧ Ex S (c.led nw) Γ1 body (fun f m h => f = .next ∧ News c.h₀ c.L h nw ∧ ∃ st, P r st ∧ GOk (c.led nw) (Γs st) m)) :
    Es S c Γ (.For (.Tuple tgs k tp) (.Call (.Name (Str.ofString "zip") xp) [a, b] [] yp) body [] pos) (fun f m h => f = .next ∧ News c.h₀ c.L h c.news ∧ ∃ st, P [] st ∧ GOk c (Γs st) m) := fun m s Q E O G F N kk =>
  For_turns F (Call_ (Ev.blt ok hb (g_zip _) b_zip (by decide) m s _ _ G F N fun v _ _ F1 N1 hv => by
    cases hv
    refine PyProof.Rows.callWith_type1 (h.args m _ _ _ G F1 N1 fun vs h8 tk8 F2 N2 hvs => ?_) (h.head _) (h.tail _)
    cases hvs with
    | cons h1 h2 =>
      cases h2 with
      | cons h3 h4 =>
        cases h4
        cases h1
        cases h3
        refine ktu_zip ok.hh F2 N2 hm1 rfl rfl hm2 rfl rfl fun I hI => ?_
        refine items_E (s := { s with heap := h8, toks := tk8 }) (c := c) (ws := [(I + 4, "zip"), (I + 2, "tuple"), (I + 3, "tuple"), (I, "list_iterator"), (I + 1, "list_iterator")]) (keep := [(l1, lst xs n1), (l2, lst ys n2)]) (by exact ⟨hm1, hm2, trivial⟩) hI (fun w hw => ?_) O hf (fun a r st its hP hi => turn a r st _ hP fun p hp => List.mem_append_right _ hp) (fun st m h tk hP G F N => kk .next h tk m F ⟨rfl, N, st, hP, G⟩) _ st₀ m hP (G.sub hG)
        simp only [List.mem_cons, List.not_mem_nil, or_false] at hw
        rcases hw with rfl | rfl | rfl | rfl | rfl
        all_goals first | exact Nat.le_add_right _ _ | exact Nat.le_refl _)) hs O
end
theorem xor_add_and (a : Nat) : ∀ b : Nat, (a ^^^ b) + 2 * (a &&& b) = a + b := by
  induction a using Nat.strongRecOn with
  | ind a ih =>
    intro b
    by_cases h : a = 0
    · subst h; simp
    · have h0 := ih (a / 2) (by (first | lia | omega)) (b / 2)
      rw [← Nat.xor_div_two, ← Nat.and_div_two] at h0
      have h1 : (a ^^^ b) % 2 = a % 2 ^^^ b % 2 := Nat.xor_mod_two_pow (n := 1)
      have h2 : (a &&& b) % 2 = a % 2 &&& b % 2 := Nat.and_mod_two_pow (n := 1)
      have ha : a % 2 = 0 ∨ a % 2 = 1 := by (first | lia | omega)
      have hb : b % 2 = 0 ∨ b % 2 = 1 := by (first | lia | omega)
      rcases ha with ha | ha <;> rcases hb with hb | hb <;> rw [ha, hb] at h1 h2 <;> (first | rw [show (0 ^^^ 0 : Nat) = 0 from rfl] at h1 | rw [show (0 ^^^ 1 : Nat) = 1 from rfl] at h1 | rw [show (1 ^^^ 0 : Nat) = 1 from rfl] at h1 | rw [show (1 ^^^ 1 : Nat) = 0 from rfl] at h1) <;> (first | rw [show (0 &&& 0 : Nat) = 0 from rfl] at h2 | rw [show (0 &&& 1 : Nat) = 0 from rfl] at h2 | rw [show (1 &&& 0 : Nat) = 0 from rfl] at h2 | rw [show (1 &&& 1 : Nat) = 1 from rfl] at h2) <;> (first | lia | omega)
theorem bitXor_nat (a b : Nat) : Builtin.bitXor (a : Int) (b : Int) = ((a ^^^ b : Nat) : Int) := by
  rw [bitXor_and]
  have e : Builtin.bitAnd (a : Int) (b : Int) = ((a &&& b : Nat) : Int) := by
    unfold Builtin.bitAnd
    have h1 : decide (0 ≤ (a : Int)) = true := decide_eq_true (by (first | lia | omega))
    have h2 : decide (0 ≤ (b : Int)) = true := decide_eq_true (by (first | lia | omega))
    rw [h1, h2]; simp
  rw [e]
  have := xor_add_and a b
  (first | lia | omega)
-- the law's own turn
noncomputable def lawTurn (f b : Int) : Int := Builtin.bitXor f ((f * 32 + f.fdiv 4 + b).fmod 4294967296)
theorem lawTurn_eq {f b : Int} (h0 : 0 ≤ f) (h1 : f < 4294967296) (hb : 0 ≤ b) : lawTurn f b = hashTurn f b := by
  have hd : f.fdiv 4 = f / 4 := Int.fdiv_eq_ediv_of_nonneg _ (by decide)
  have hd2 : f.fdiv (2 ^ 2) = f / 4 := Int.fdiv_eq_ediv_of_nonneg _ (by decide)
  have hm : ∀ y : Int, y.fmod 4294967296 = y % 4294967296 := fun y => Int.fmod_eq_emod_of_nonneg _ (by decide)
  rw [lawTurn, hashTurn, bitAnd_m32, hm, hd, hd2]
  have e32 : f * 2 ^ 5 + f / 4 + b = f * 32 + f / 4 + b := rfl
  rw [e32]
  generalize hy : f * 32 + f / 4 + b = y
  have hy0 : 0 ≤ y := by (first | lia | omega)
  obtain ⟨a, rfl⟩ := Int.eq_ofNat_of_zero_le h0
  obtain ⟨c, rfl⟩ := Int.eq_ofNat_of_zero_le hy0
  have e1 : ((c : Int) % 4294967296) = ((c % 2 ^ 32 : Nat) : Int) := by (first | lia | omega)
  rw [e1, bitXor_nat, bitXor_nat]
  have e2 : (((a ^^^ c : Nat) : Int) % 4294967296) = (((a ^^^ c) % 2 ^ 32 : Nat) : Int) := by (first | lia | omega)
  rw [e2, Nat.xor_mod_two_pow, Nat.mod_eq_of_lt (by (first | lia | omega) : a < 2 ^ 32)]
-- the places that the filter leaves, from k downwards
noncomputable def placesT (n step : Nat) : Nat → List Int
  | 0 => []
  | k + 1 => if (n - (k + 1)) % step = 0 ∧ step ≤ k + 1 then ((k + 1 : Nat) : Int) :: placesT n step k else placesT n step k
noncomputable def foldT (x : List UInt8) (f : Int) (ps : List Int) : Int := ps.foldl (fun f p => lawTurn f (oct x (p - 1).toNat)) f
theorem places_none (n step : Nat) : ∀ k, k < step → placesT n step k = []
  | 0, _ => rfl
  | k + 1, h => by rw [placesT, if_neg (by (first | lia | omega))]; exact places_none n step k (by (first | lia | omega))
-- between two places nothing is left
theorem places_gap (n step c : Nat) (hc : n - c = 0 ∨ True) : ∀ j, j < step → ∀ k, c = k + step → c ≤ n → (n - c) % step = 0 → placesT n step (k + j) = placesT n step k
  | 0, _, k, _, _, _ => rfl
  | j + 1, hj, k, hk, hn, hm => by
    rw [← Nat.add_assoc, placesT, if_neg, places_gap n step c hc j (by (first | lia | omega)) k hk hn hm]
    rintro ⟨h, _⟩
    have e : n - (k + j + 1) = (n - c) + (step - (j + 1)) := by (first | lia | omega)
    rw [e, Nat.add_mod, hm, Nat.zero_add, Nat.mod_mod, Nat.mod_eq_of_lt (by (first | lia | omega))] at h
    (first | lia | omega)
theorem fold_hash (x : List UInt8) (step : Nat) (hs : 0 < step) : ∀ (k : Nat) (f : Int), k ≤ x.length → (x.length - k) % step = 0 → 0 ≤ f → f < 4294967296 → foldT x f (placesT x.length step k) = hashFrom x step f k := by
  intro k
  induction k using Nat.strongRecOn with
  | ind k ih =>
    intro f hk hm h0 h1
    by_cases hc : step ≤ k
    · obtain ⟨j, rfl⟩ : ∃ j, k = j + step := ⟨k - step, by (first | lia | omega)⟩
      rw [hashFrom_pos hs hc]
      obtain ⟨i, hi⟩ : ∃ i, step = i + 1 := ⟨step - 1, by (first | lia | omega)⟩
      have e1 : placesT x.length step (j + step) = ((j + step : Nat) : Int) :: placesT x.length step (j + (step - 1)) := by
        have e2 : j + step = (j + (step - 1)) + 1 := by (first | lia | omega)
        rw [e2, placesT, if_pos (by rw [← e2]; exact ⟨hm, hc⟩)]
      rw [e1, places_gap x.length step (j + step) (.inr trivial) (step - 1) (by (first | lia | omega)) j rfl hk hm]
      show foldT x (lawTurn f _) _ = _
      have e3 : (((j + step : Nat) : Int) - 1).toNat = j + step - 1 := by (first | lia | omega)
      rw [e3, lawTurn_eq h0 h1 (oct_lo _ _)]
      have hr := hash_in (f := f) (i := oct x (j + step - 1))
      have e4 : j + step - step = j := by (first | lia | omega)
      rw [e4]
      exact ih j (by (first | lia | omega)) _ (by (first | lia | omega)) (by
        have e5 : x.length - j = (x.length - (j + step)) + step := by (first | lia | omega)
        rw [e5, Nat.add_mod_right]; exact hm) hr.1 hr.2
    · rw [places_none _ _ _ (by (first | lia | omega)), hashFrom_neg hc]
      rfl
theorem size_down (n : Nat) : Builtin.Range.rangeSize (n : Int) 0 (-1) = (n : Int) := by
  unfold Builtin.Range.rangeSize
  rw [if_neg (by decide)]
  by_cases h : (n : Int) > 0
  · rw [if_pos h, show (- -1 : Int) = 1 from rfl, Int.ediv_one]; (first | lia | omega)
  · rw [if_neg h]; (first | lia | omega)
theorem fits_small {k : Int} (h0 : -1 ≤ k) (h1 : k < 1000) : Builtin.Range.rangeFitsLong k = true := by
  have e1 : (-(2 ^ 63 : Int)) ≤ k := Int.le_trans (by decide) h0
  have e2 : k < (2 ^ 63 : Int) := Int.lt_trans h1 (by decide)
  unfold Builtin.Range.rangeFitsLong
  rw [decide_eq_true e1, decide_eq_true e2]; rfl
theorem small_down {n : Nat} (h : n < 100) : Builtin.Range.small (n : Int) 0 (-1) = true := by
  have f0 := fits_small (k := (n : Int)) (by (first | lia | omega)) (by (first | lia | omega))
  have f1 := fits_small (k := 0) (by decide) (by decide)
  have f2 := fits_small (k := -1) (by decide) (by decide)
  have f3 : Builtin.Range.rangeFitsLong (0 + (-1 + 1)) = true := f1
  unfold Builtin.Range.small
  rw [size_down, f0, f1, f2, if_neg (by decide), f3]
  simp
theorem size_up (n : Nat) : Builtin.Range.rangeSize 0 (n : Int) 1 = (n : Int) := by
  unfold Builtin.Range.rangeSize
  rw [if_pos (by decide)]
  by_cases h : 0 < (n : Int)
  · rw [if_pos h, Int.ediv_one]; (first | lia | omega)
  · rw [if_neg h]; (first | lia | omega)
theorem small_up {n : Nat} (h : n < 100) : Builtin.Range.small 0 (n : Int) 1 = true := by
  have f0 := fits_small (k := (n : Int)) (by (first | lia | omega)) (by (first | lia | omega))
  have f1 := fits_small (k := 0) (by decide) (by decide)
  have f2 := fits_small (k := 1) (by decide) (by decide)
  have f3 := fits_small (k := (n : Int) + (1 - 1)) (by (first | lia | omega)) (by (first | lia | omega))
  unfold Builtin.Range.small
  rw [size_up, f0, f1, f2, if_pos (by decide), f3]
  simp
theorem places_at {n i step : Nat} (hi : i < n) : placesT n step (n - i) = if (n - (n - i)) % step = 0 ∧ step ≤ n - i then ((n - i : Nat) : Int) :: placesT n step (n - (i + 1)) else placesT n step (n - (i + 1)) := by
  obtain ⟨k, hk⟩ : ∃ k, n - i = k + 1 := ⟨n - i - 1, by (first | lia | omega)⟩
  have e : n - (i + 1) = k := by (first | lia | omega)
  rw [hk, e, placesT]
theorem test_iff {n i step : Nat} (hi : i < n) : ((n : Int) - ((n - i : Nat) : Int)).fmod (step : Int) = 0 ↔ (n - (n - i)) % step = 0 := by
  have e : (n : Int) - ((n - i : Nat) : Int) = ((n - (n - i) : Nat) : Int) := by (first | lia | omega)
  rw [e, Int.fmod_eq_emod_of_nonneg _ (by (first | lia | omega)), ← Int.natCast_emod]
  (first | lia | omega)
theorem places_range (n step : Nat) : ∀ k, ∀ z ∈ placesT n step k, 1 ≤ z ∧ z ≤ (k : Int)
  | 0, z, h => by cases h
  | k + 1, z, h => by
    rw [placesT] at h
    by_cases hc : (n - (k + 1)) % step = 0 ∧ step ≤ k + 1
    · rw [if_pos hc] at h
      rcases List.mem_cons.mp h with rfl | h
      · (first | lia | omega)
      · have := places_range n step k z h; (first | lia | omega)
    · rw [if_neg hc] at h
      have := places_range n step k z h; (first | lia | omega)
set_option tactic.hygienic true in
theorem law_hash_r {x : List UInt8} (hx : x.length < 80) : GivesR 1 266 [.byt x] (.int (hashZ x)) := by
  refine givesR_cell (lev := 0) (xs := [Str.ofString "text"]) (fun P => by exact rfl) (fun P => by k_is) (fun _ => ⟨fun s => BindsTo.of_eq rfl, rfl⟩) (by decide) rfl rfl rfl ?_
  intro c vs cells hvs hcs hlow ok
  cases hvs with | cons h1 h2 => ?_
  cases h2
  obtain ⟨t, rfl⟩ := h1
  obtain ⟨o2, o1, rfl, d2, d1⟩ := hcs.two
  replace d1 : o1.data = .cell (some (.bytes x.toArray t)) := d1
  replace d2 : o2.data = .cell none := d2
  have hle : x.length ≤ 80 := Nat.le_of_lt hx
  refine Ex.pairC ok rfl rfl rfl (.head ?_) d2 rfl (EvT.tuple (Ev.len ok rfl (Ev.cell ok rfl rfl (.tail _ (.head _)) d1 ⟨t, rfl⟩) hle) (Ev.bin (Ev.bin (Ev.len ok rfl (Ev.cell ok rfl rfl (.tail _ (.head _)) d1 ⟨t, rfl⟩) hle) Ev.cint (Bn.fdiv (by decide) (by decide))) Ev.cint Bn.add)) (fun _ => rfl) (by with_unfolding_all rfl) ?_
  · intro p hp
    rcases List.mem_cons.mp hp with rfl | hp
    · exact Nat.ne_of_lt (Nat.lt_succ_self _)
    · exact Nat.ne_of_lt (Nat.lt_of_lt_of_le (hlow p hp) (Nat.le_add_right _ 2))
  intro o3 tS d3
  have eS : ((x.length : Nat) : Int).fdiv 32 + 1 = ((x.length / 32 + 1 : Nat) : Int) := by
    rw [Int.fdiv_eq_ediv_of_nonneg _ (by decide)]; (first | lia | omega)
  rw [eS] at d3
  generalize hst : x.length / 32 + 1 = step at d3
  have hs0 : 0 < step := by (first | lia | omega)
  have hs1 : step < 80 := by (first | lia | omega)
  change Ex _ (c.led ((c.L + 1 + 1, o3) :: (c.L + 1, o1) :: c.news)) _ _ _
  replace ok := ok.led ((c.L + 1 + 1, o3) :: (c.L + 1, o1) :: c.news)
  have tx : ∀ {nw : Led} {Γ : Gam} {pos : Pos}, (c.L + 1, o1) ∈ nw → Ev (Fs.env _ (c.led nw)) (c.led nw) Γ (.Name (Str.ofString "text") pos) (.byt x) := fun hm => Ev.cell (ok.led _) rfl rfl hm d1 ⟨t, rfl⟩
  refine Ex.seqL (Es.forList (σ := Int) (Γs := fun f => [(Str.ofString "found", .int f)]) (fun xs f => 0 ≤ f ∧ f < 4294967296 ∧ ∃ vs zs, xs = vs.map .val ∧ IntsAre vs zs ∧ (∀ z ∈ zs, 1 ≤ z ∧ z ≤ (x.length : Int)) ∧ foldT x f zs = hashZ x) (ok.led _)
    (EvN.compD (K := x.length) (fun q ys => ∃ zs, IntsAre ys zs ∧ zs ++ placesT x.length step (x.length - q) = placesT x.length step x.length) (ok.led _) (EvRg.three (ok.led _) rfl (.cons (Ev.len (ok.led _) rfl (tx (.tail _ (.head _))) hle) (.cons Ev.cint (.cons (Ev.neg Ev.cint) .nil))) (by decide) (by decide))
      (by with_unfolding_all rfl) (by decide) rfl (by decide) rfl (fun _ => rfl) (small_down (by (first | lia | omega))) (size_down _) (by (first | lia | omega)) ⟨[], .nil, rfl⟩ ?_) x.length ?_ (.cons rfl .nil) (fun _ => rfl) (fun _ => rfl) ?_) ?_
  · rintro q ys hq ⟨zs, hz, hp⟩ I C D oI oC m₂ t2 hC hx2
    have e2 : (x.length : Int) + (q : Int) * (-1) = ((x.length - q : Nat) : Int) := by (first | lia | omega)
    rw [e2] at hx2
    refine ⟨_, .int ((x.length - q : Nat) : Int), Tv.and (Tv.cmp (Ev.bin (Ev.bin (Ev.lenE (Ev.cblt (ok.led _) (g_len _) b_len (by decide) rfl rfl rfl) (Ev.ccell (r := .byt x) (.tail _ (.tail _ (.tail _ (.tail _ (.head _))))) d1 ⟨t, rfl⟩ rfl rfl rfl rfl) hle) (Ev.own (r := .int ((x.length - q : Nat) : Int)) (.tail _ (.head _)) hC hx2 ⟨t2, rfl⟩ rfl rfl rfl) Bn.sub) (Ev.ccell (r := .int (step : Int)) (.tail _ (.tail _ (.tail _ (.head _)))) d3 ⟨_, rfl⟩ rfl rfl rfl rfl) (Bn.mod (by (first | lia | omega)))) Ev.cint Bn.eq) (fun _ => Tv.and (Tv.cmp (Ev.own (r := .int ((x.length - q : Nat) : Int)) (.tail _ (.head _)) hC hx2 ⟨t2, rfl⟩ rfl rfl rfl) (Ev.ccell (r := .int (step : Int)) (.tail _ (.tail _ (.tail _ (.head _)))) d3 ⟨_, rfl⟩ rfl rfl rfl rfl) Bn.ge) fun _ => Tv.and_nil), fun hb => ⟨(Ev.own (r := .int ((x.length - q : Nat) : Int)) (.tail _ (.head _)) hC hx2 ⟨t2, rfl⟩ rfl rfl rfl), fun v hv => ?_⟩, fun hb => ?_, rfl⟩
    · obtain ⟨t3, rfl⟩ := hv
      simp only [Bool.and_eq_true, beq_iff_eq, decide_eq_true_eq, and_true] at hb
      exact ⟨zs ++ [((x.length - q : Nat) : Int)], hz.append (.cons _ _ .nil), by rw [← hp, places_at hq, if_pos ⟨(test_iff hq).mp hb.1, by (first | lia | omega)⟩, List.append_assoc]; rfl⟩
    · refine ⟨zs, hz, ?_⟩
      rw [← hp, places_at hq, if_neg]
      rintro ⟨g1, g2⟩
      rw [(test_iff hq).mpr g1] at hb
      simp at hb
      (first | lia | omega)
  · rintro vs ⟨zs, hz, hp⟩
    rw [Nat.sub_self, show placesT x.length step 0 = [] from rfl, List.append_nil] at hp
    refine ⟨Int.natCast_nonneg _, by (first | lia | omega), vs, zs, rfl, hz, by rw [hp]; exact places_range _ _ _, ?_⟩
    rw [hp, hashZ, hst]
    exact fold_hash x step hs0 x.length x.length (Nat.le_refl _) (by rw [Nat.sub_self]; exact Nat.zero_mod _) (by (first | lia | omega)) (by (first | lia | omega))
  · rintro a r f nw ⟨hf0, hf1, vs, zs, hxs, hzs, hrg, hfd⟩ hsub
    cases hzs with
    | nil => cases hxs
    | cons z tz hzs =>
      rename_i vs zs
      obtain ⟨rfl, rfl⟩ := List.cons.inj hxs
      have hz1 := hrg z (List.mem_cons_self)
      refine ⟨_, Am.name (r := .int z) (ok.led nw) rfl fun v h hv => ⟨tz, hv⟩, ?_⟩
      have hm := hsub _ (.tail _ (.head _))
      have e8 : (2 : Int) ^ Int.toNat 32 = 4294967296 := rfl
      refine Ex.seq (Es.assign (ok.led nw) rfl (Ev.bin (Ev.bin (Ev.bin (Ev.bin (Ev.loc (ok.led nw) rfl) Ev.cint (Bn.mul (mul_small (by (first | lia | omega))))) (Ev.bin (Ev.loc (ok.led nw) rfl) Ev.cint (Bn.fdiv (by decide) (by decide))) Bn.add) (Ev.sub (tx hm) (Ev.bin (Ev.loc (ok.led nw) rfl) Ev.cint Bn.sub) (Bn.octet (by (first | lia | omega)) (by (first | lia | omega)) hle (fun _ _ => rfl) fun _ _ => rfl)) Bn.add) (Ev.bin Ev.cint Ev.cint (Bn.pow (by decide) (by decide) (by decide))) (Bn.mod (by decide)))) ?_
      refine Ex.seq (Es.assign (ok.led nw) rfl (Ev.bin (Ev.loc (ok.led nw) rfl) (Ev.loc (ok.led nw) rfl) Bn.xor)) (Ex.nil fun m h G N => ⟨rfl, N, lawTurn f (oct x (z - 1).toNat), ⟨?_, ?_, vs, zs, rfl, hzs, fun q hq => hrg q (List.mem_cons_of_mem _ hq), hfd⟩, G.sub (.cons rfl .nil)⟩)
      · rw [lawTurn_eq hf0 hf1 (oct_lo _ _)]; exact hash_in.1
      · rw [lawTurn_eq hf0 hf1 (oct_lo _ _)]; exact hash_in.2
  · rintro f m h ⟨e, N, st, ⟨h0, h1, vs, zs, hxs, hzs, hrg, hfd⟩, G⟩
    cases hzs with
    | cons z tz hzs => cases hxs
    | nil =>
      refine ⟨e, _, _, N, G, ?_⟩
      exact Ex.retW (c := c) (nw := (c.L + 1 + 1, o3) :: (c.L + 1, o1) :: c.news) (Ev.int_of hfd (Ev.loc ok rfl)) (fun p hp => .tail _ (.tail _ hp)) rfl
section
variable {S : Fs} {V : Env} {c : Act} {Γ Γ' : Gam} {n : Nat} {x y : Str} {pos xp yp tp sp cp : Pos} {a b e it elt ct tg : PySem.Expr} {l : Addr} {vs : List Value} {cap : Nat} {ks : List Int} {i : Int}
-- a list of whole numbers like ks, in the ledger
noncomputable def LsI (c : Act) (ks : List Int) (v : Value) (nw : Led) : Prop := (∀ p ∈ c.news, p ∈ nw) ∧ ∃ l vs cap, v = .ref l ∧ (l, lst vs cap) ∈ nw ∧ IntsAre vs ks
theorem EvN.upto (h : Ev (S.env c) c Γ a (.ex (.ref l))) (hm : (l, lst vs cap) ∈ c.news) (hI : IntsAre vs ks) (hu : Ev (S.env c) c Γ b (.int i)) (h0 : 0 ≤ i) (hz : vs.length ≤ 100) (hs : ∀ l v, subscripted (.Slice none (some b) none sp) false l v = operate [v, l] (getItem l v)) (ht : ∀ l r, letTemporaryGo a l r = pure ()) :
    EvN (S.env c) c Γ (.Subscript a (.Slice none (some b) none sp) pos) (LsI c (ks.take i.toNat)) := fun m s Q E G F N k =>
  Subscript_ (h m s _ _ G F N fun v _ _ F1 N1 hv => by
    cases hv
    refine wpAny_Slice (evalPart_none_step (evalPart_some_step (hu m _ _ _ G F1 N1 fun u _ _ F2 N2 hu => evalPart_none_step ?_)))
    obtain ⟨t, rfl⟩ := hu
    exact kmk_slice_ints F2 N2 ⟨_, (N2 _ hm).1, rfl, _, rfl⟩ .none (.int _ _) hI (kmk_upto hI h0) rfl (fun D ws h' F3 N3 _ hI3 _ _ => k _ _ h' _ F3 N3 ⟨fun _ h => .tail _ h, D, ws, _, rfl, .head _, hI3⟩) (hs _ _) (ht _) (by rw [sizeLine_eq, List.size_toArray]; (first | lia | omega)))
theorem EvN.from (h : Ev (S.env c) c Γ a (.ex (.ref l))) (hm : (l, lst vs cap) ∈ c.news) (hI : IntsAre vs ks) (hu : Ev (S.env c) c Γ b (.int i)) (h0 : 0 ≤ i) (hz : vs.length ≤ 100) (hs : ∀ l v, subscripted (.Slice (some b) none none sp) false l v = operate [v, l] (getItem l v)) (ht : ∀ l r, letTemporaryGo a l r = pure ()) :
    EvN (S.env c) c Γ (.Subscript a (.Slice (some b) none none sp) pos) (LsI c (ks.drop i.toNat)) := fun m s Q E G F N k =>
  Subscript_ (h m s _ _ G F N fun v _ _ F1 N1 hv => by
    cases hv
    refine wpAny_Slice (evalPart_some_step (hu m _ _ _ G F1 N1 fun u _ _ F2 N2 hu => evalPart_none_step (evalPart_none_step ?_)))
    obtain ⟨t, rfl⟩ := hu
    exact kmk_slice_ints F2 N2 ⟨_, (N2 _ hm).1, rfl, _, rfl⟩ (.int _ _) .none hI (kmk_from hI h0) rfl (fun D ws h' F3 N3 _ hI3 _ _ => k _ _ h' _ F3 N3 ⟨fun _ h => .tail _ h, D, ws, _, rfl, .head _, hI3⟩) (hs _ _) (ht _) (by rw [sizeLine_eq, List.size_toArray]; (first | lia | omega)))
theorem Bn.addbyt {x y z : List UInt8} (hz : x.length ≤ 100) (hw : y.length ≤ 100) (e : x ++ y = z) : Bn c (binaryOp .Add) (.byt x) (.byt y) (.byt z) := fun m u v s Q E F N ⟨_, hu⟩ ⟨_, hv⟩ k => by
  subst hu hv
  exact bytes_add_K (by rw [List.size_toArray, List.size_toArray]; (first | lia | omega)) e fun t k2 => k _ k2 ⟨t, rfl⟩
end
theorem Ev.to {V : Env} {c : Act} {Γ : Gam} {e : PySem.Expr} {r r' : Rv} (h : Ev V c Γ e r) (hr : ∀ v, r.ok c v → r'.ok c v) : Ev V c Γ e r' := fun m s Q E G F N k => h m s Q E G F N fun v h' tk' F1 N1 hv => k v h' tk' F1 N1 (hr v hv)
theorem EvN.ofV {V : Env} {c : Act} {Γ : Gam} {e : PySem.Expr} {r : Rv} {P : Value → Led → Prop} (h : Ev V c Γ e r) (hP : ∀ v, r.ok c v → P v c.news) : EvN V c Γ e P := fun m s Q E G F N k => h m s _ _ G F N fun v h' tk' F1 N1 hv => k v _ h' tk' F1 N1 (hP v hv)
-- the octets of the longer text
noncomputable def octZ (c : Int) : Nat → List Int
  | 0 => []
  | i + 1 => octZ c i ++ [(c + (i : Int) * (i : Int)).fmod 256]
theorem octZ_len (c : Int) : ∀ n, (octZ c n).length = n
  | 0 => rfl
  | n + 1 => by rw [octZ, List.length_append, octZ_len c n]; rfl
theorem octZ_byte (c : Int) : ∀ n, ∀ k ∈ octZ c n, 0 ≤ k ∧ k < 256
  | 0, k, h => by cases h
  | n + 1, k, h => by
    rcases List.mem_append.mp h with h | h
    · exact octZ_byte c n k h
    · rw [List.mem_singleton.mp h, Int.fmod_eq_emod_of_nonneg _ (by decide)]; (first | lia | omega)
theorem g_string_hash (P : Params) : nsIn (Mine.KF P) mainGlobals (Str.ofString "string_hash") = some (some (.ref 212)) := by k_is
theorem k_string_hash (P : Params) : keepIn (Mine.KF P) (.ref 212) = true := by k_is
theorem g_law_hash (P : Params) : nsIn (Mine.KF P) mainGlobals (Str.ofString "_law_hash") = some (some (.ref 266)) := by k_is
theorem k_law_hash (P : Params) : keepIn (Mine.KF P) (.ref 266) = true := by k_is
theorem g_raw_equal (P : Params) : nsIn (Mine.KF P) mainGlobals (Str.ofString "raw_equal") = some (some (.ref 135)) := by k_is
theorem k_raw_equal (P : Params) : keepIn (Mine.KF P) (.ref 135) = true := by k_is
set_option tactic.hygienic true in
theorem law_text_right_r {ns : List Int} {k : Int} (hn : ns.length ≤ 63) (h0 : 0 ≤ k) (h1 : k ≤ 20) : GivesR 3 278 [.scr ns, .int k] (.bool true) := by
  refine givesR_cell (lev := 2) (xs := [Str.ofString "script", Str.ofString "at"]) (fun P => by exact rfl) (fun P => by k_is) (fun _ _ => ⟨fun s => BindsTo.of_eq rfl, rfl⟩) (by decide) rfl rfl rfl ?_
  intro c vs cells hvs hcs hlow ok
  cases hvs with | cons q1 q2 => ?_
  cases q2 with | cons q2 q3 => ?_
  cases q3
  obtain ⟨o2, o1, rfl, d2, d1⟩ := hcs.two
  rename_i u1 u2
  replace d1 : o1.data = .cell (some u1) := d1
  replace d2 : o2.data = .cell (some u2) := d2
  change Ex _ (c.led ((c.L + 1 + 1, o2) :: (c.L + 1, o1) :: c.news)) _ _ _
  replace ok := ok.led ((c.L + 1 + 1, o2) :: (c.L + 1, o1) :: c.news)
  refine Ex.seq (Es.assign ok rfl (Ev.bin (Ev.call ok rfl (g_cell _) (k_cell _) (law_cell_r hn h0 (by (first | lia | omega))) (by decide) (.cons (Ev.cell ok rfl rfl (.tail _ (.head _)) d1 q1) (.cons (Ev.cell ok rfl rfl (.head _) d2 q2) .nil))) Ev.cint (Bn.mod (by decide)))) ?_
  obtain ⟨n, hn80, en⟩ : ∃ n : Nat, n < 80 ∧ (cellZ ns k).fmod 80 = (n : Int) := ⟨((cellZ ns k).fmod 80).toNat, by rw [Int.fmod_eq_emod_of_nonneg _ (by decide)]; (first | lia | omega), by rw [Int.fmod_eq_emod_of_nonneg _ (by decide)]; (first | lia | omega)⟩
  rw [en]
  refine Ex.compR (K := n) (fun q ys nw => nw = (c.L + 1 + 1, o2) :: (c.L + 1, o1) :: c.news ∧ IntsAre ys (octZ (cellZ ns (k + 1)) q)) ok (EvRg.one ok rfl (.cons (Ev.loc ok rfl) .nil)) (by with_unfolding_all rfl) (by with_unfolding_all rfl) (by decide) rfl (by decide) rfl rfl (fun _ => rfl) (small_up (by (first | lia | omega))) (size_up n) (by (first | lia | omega)) ⟨rfl, .nil⟩ ?_ (fun ys nw h p hp => h.1 ▸ hp) ?_
  · rintro q ys nw hq ⟨rfl, hz⟩ I C D oI oC m₂ t hC hx2 off
    rw [Int.zero_add] at hx2
    refine EvN.ofV (r := .int ((cellZ ns (k + 1) + (q : Int) * (q : Int)).fmod 256)) (Ev.bin (Ev.bin (Ev.callE (ok.led _) (Ev.cglob (ok.led _) (g_cell _) rfl rfl rfl) (k_cell _) (law_cell_r (k := k + 1) hn (by (first | lia | omega)) (by (first | lia | omega))) (by decide) (.cons (Ev.ccell (r := .scr ns) (.tail _ (.tail _ (.tail _ (.tail _ (.head _))))) d1 q1 rfl rfl rfl rfl) (.cons (Ev.bin (Ev.ccell (r := .int k) (.tail _ (.tail _ (.tail _ (.head _)))) d2 q2 rfl rfl rfl rfl) Ev.cint Bn.add) .nil))) (Ev.bin (Ev.own (r := .int (q : Int)) (.tail _ (.head _)) hC hx2 ⟨t, rfl⟩ rfl rfl rfl) (Ev.own (r := .int (q : Int)) (.tail _ (.head _)) hC hx2 ⟨t, rfl⟩ rfl rfl rfl) (Bn.mul (mul_small (by (first | lia | omega))))) Bn.add) Ev.cint (Bn.mod (by decide))) ?_
    rintro v ⟨t3, rfl⟩
    exact CEnd.same off ⟨rfl, hz.append (.cons _ _ .nil)⟩
  · rintro ys nw D ⟨rfl, hz⟩
    generalize hzs : octZ (cellZ ns (k + 1)) n = zs at hz
    have hB : ∀ j ∈ zs, 0 ≤ j ∧ j < 256 := hzs ▸ octZ_byte _ n
    have hzl : zs.length = n := by rw [← hzs, octZ_len]
    have hyl : ys.length = n := by rw [hz.length, hzl]
    have ok2 := ok.led ((D, LCg.lst ys) :: (c.L + 1 + 1, o2) :: (c.L + 1, o1) :: c.news)
    have e1 : ((n : Int).fdiv 2) = ((n / 2 : Nat) : Int) := by rw [Int.fdiv_eq_ediv_of_nonneg _ (by decide)]; (first | lia | omega)
    have hl1 : (zs.map fun n => n.toNat.toUInt8).length < 80 := by rw [List.length_map, hzl]; exact hn80
    refine Ex.seq (Es.pair ok2 rfl rfl (EvT.tuple (r1 := .byt (zs.map fun n => n.toNat.toUInt8)) (r2 := .byt (zs.map fun n => n.toNat.toUInt8)) (Ev.bytesN ok2 rfl hB (by (first | lia | omega)) (EvN.at_ (Ev.loc ok2 rfl) (.head _) hz))
      (Ev.bin (Ev.bytesN ok2 rfl (fun j hj => hB j (List.mem_of_mem_take hj)) (by rw [List.length_take]; (first | lia | omega)) (EvN.upto (i := ((n / 2 : Nat) : Int)) (Ev.loc ok2 rfl) (.head _) hz (Ev.int_of e1 (Ev.bin (Ev.loc ok2 rfl) Ev.cint (Bn.fdiv (by decide) (by decide)))) (by (first | lia | omega)) (by (first | lia | omega)) (fun _ _ => rfl) fun _ _ => rfl))
        (Ev.bytesN ok2 rfl (fun j hj => hB j (List.mem_of_mem_drop hj)) (by rw [List.length_drop]; (first | lia | omega)) (EvN.from (i := ((n / 2 : Nat) : Int)) (Ev.loc ok2 rfl) (.head _) hz (Ev.int_of e1 (Ev.bin (Ev.loc ok2 rfl) Ev.cint (Bn.fdiv (by decide) (by decide)))) (by (first | lia | omega)) (by (first | lia | omega)) (fun _ _ => rfl) fun _ _ => rfl))
        (Bn.addbyt (by rw [List.length_map, List.length_take]; (first | lia | omega)) (by rw [List.length_map, List.length_drop]; (first | lia | omega)) (by rw [← List.map_append, List.take_append_drop])))) (fun _ => rfl) (by with_unfolding_all rfl)) ?_
    generalize zs.map (fun n => n.toNat.toUInt8) = tx at hl1
    have hd : ∀ {c : Act} v, (Rv.byt tx).ok c v → (Rv.dat (.text tx)).ok c v := fun v hv => hv
    exact Ex.retW (c := c) (nw := (D, LCg.lst ys) :: (c.L + 1 + 1, o2) :: (c.L + 1, o1) :: c.news) (Ev.bool_of (by simp) (Ev.and_cons (Ev.cmp (Ev.call ok2 rfl (g_string_hash _) (k_string_hash _) (string_hash_r (by (first | lia | omega))) (by decide) (.cons (Ev.loc ok2 rfl) .nil)) (Ev.call ok2 rfl (g_law_hash _) (k_law_hash _) (law_hash_r hl1) (by decide) (.cons (Ev.loc ok2 rfl) .nil)) Bn.eq) fun _ =>
      Ev.and2 (Ev.cmp (Ev.call ok2 rfl (g_string_hash _) (k_string_hash _) (string_hash_r (by (first | lia | omega))) (by decide) (.cons (Ev.loc ok2 rfl) .nil)) (Ev.call ok2 rfl (g_string_hash _) (k_string_hash _) (string_hash_r (by (first | lia | omega))) (by decide) (.cons (Ev.loc ok2 rfl) .nil)) Bn.eq) fun _ =>
        Ev.call ok2 rfl (g_raw_equal _) (k_raw_equal _) (raw_equal_r (d := .text tx) (d' := .text tx)) (by decide) (.cons (Ev.to (Ev.loc ok2 rfl) hd) (.cons (Ev.to (Ev.loc ok2 rfl) hd) .nil)))) (fun p hp => .tail _ (.tail _ (.tail _ hp))) rfl
-- the values of a list bear the data of another, one by one
inductive All2 (R : Value → D → Prop) : List Value → List D → Prop where
  | nil : All2 R [] []
  | cons {v : Value} {d : D} {vs : List Value} {ds : List D} : R v d → All2 R vs ds → All2 R (v :: vs) (d :: ds)
theorem All2.mono {R R' : Value → D → Prop} (h : ∀ v d, R v d → R' v d) {vs : List Value} {ds : List D} (k : All2 R vs ds) : All2 R' vs ds := by
  induction k with
  | nil => exact .nil
  | cons a _ ih => exact .cons (h _ _ a) ih
theorem All2.snoc {R : Value → D → Prop} {v : Value} {d : D} (h : R v d) {vs : List Value} {ds : List D} (k : All2 R vs ds) : All2 R (vs ++ [v]) (ds ++ [d]) := by
  induction k with
  | nil => exact .cons h .nil
  | cons a _ ih => exact .cons a ih
theorem All2.length {R : Value → D → Prop} {vs : List Value} {ds : List D} (k : All2 R vs ds) : vs.length = ds.length := by
  induction k with
  | nil => rfl
  | cons _ _ ih => exact congrArg (· + 1) ih
theorem All2.get {R : Value → D → Prop} {vs : List Value} {ds : List D} (k : All2 R vs ds) : ∀ {i : Nat} {v : Value}, vs[i]? = some v → ∃ d, ds[i]? = some d ∧ R v d := by
  induction k with
  | nil => exact fun e => nomatch e
  | cons a _ ih =>
    intro i v e
    cases i with
    | zero => cases e; exact ⟨_, rfl, a⟩
    | succ i => exact ih (i := i) e
-- a pair of the drawn at v
noncomputable def PairAt (news : Led) (v : Value) (d : D) : Prop := ∃ a o, v = .ref a ∧ (a, o) ∈ news ∧ PairObj o d
theorem PairAt.mono {l l' : Led} (hs : ∀ p ∈ l, p ∈ l') {v : Value} {d : D} (h : PairAt l v d) : PairAt l' v d := by
  obtain ⟨a, o, e, hm, hp⟩ := h
  exact ⟨a, o, e, hs _ hm, hp⟩
-- the first n of the drawn
noncomputable def drawL (ns : List Int) : Nat → List D
  | 0 => []
  | i + 1 => drawL ns i ++ [drawZ ns (2 * (i : Int))]
theorem drawL_len (ns : List Int) : ∀ n, (drawL ns n).length = n
  | 0 => rfl
  | n + 1 => by rw [drawL, List.length_append, drawL_len ns n]; rfl
theorem texts_in (k : Nat) : textsL.getD k [] ∈ textsL := by
  by_cases h : k < 12
  · have : ∀ j : Fin 12, textsL.getD j.val [] ∈ textsL := by decide
    exact this ⟨k, h⟩
  · have e : textsL[k]? = none := List.getElem?_eq_none (by show 12 ≤ k; (first | lia | omega))
    rw [List.getD_eq_getElem?_getD, e]; decide
theorem draw_ok (ns : List Int) (k : Int) : (drawZ ns k).ok := by
  unfold drawZ
  by_cases h0 : (cellZ ns k).fmod 6 = 0
  · rw [if_pos h0]; trivial
  rw [if_neg h0]
  by_cases h1 : (cellZ ns k).fmod 6 = 1
  · rw [if_pos h1]; trivial
  rw [if_neg h1]
  by_cases h2 : (cellZ ns k).fmod 6 = 2
  · rw [if_pos h2]
    show Int.natAbs _ < 10 ^ 40
    have e1 : (cellZ ns (k + 1)).fmod 3 = (cellZ ns (k + 1)) % 3 := Int.fmod_eq_emod_of_nonneg _ (by decide)
    have e4 : (10 : Int) ^ 30 = 1000000000000000000000000000000 := by decide
    have e5 : (10 : Int) ^ 29 = 100000000000000000000000000000 := by decide
    have e2 : (cellZ ns (k + 1)).fmod 1000000000000000000000000000000 = (cellZ ns (k + 1)) % 1000000000000000000000000000000 := Int.fmod_eq_emod_of_nonneg _ (by decide)
    rw [e4, e5, e1, e2]
    generalize cellZ ns (k + 1) = c
    have e3 : (10 : Nat) ^ 40 = 10000000000000000000000000000000000000000 := by decide
    rw [e3]
    split <;> (first | lia | omega)
  rw [if_neg h2]
  by_cases h3 : (cellZ ns k).fmod 6 = 3
  · rw [if_pos h3]; exact texts_in _
  rw [if_neg h3]
  split <;> trivial
theorem drawL_ok (ns : List Int) : ∀ n, ∀ d ∈ drawL ns n, d.ok
  | 0, d, h => by cases h
  | n + 1, d, h => by
    rcases List.mem_append.mp h with h | h
    · exact drawL_ok ns n d h
    · rw [List.mem_singleton.mp h]; exact draw_ok _ _
theorem off3_of {I C D : Addr} {x y z : Obj} {tl nw : Led} (ho : ∀ q ∈ (I, x) :: (C, y) :: (D, z) :: nw, ∀ p ∈ tl, q.1 < p.1) (off : LCg.Off3 I C D nw) : LCg.Off3 I C D (tl ++ nw) := by
  refine LCg.Off3.of fun p hp => ?_
  rcases List.mem_append.mp hp with hp | hp
  · exact ⟨(Nat.ne_of_lt (ho _ (.head _) p hp)).symm, (Nat.ne_of_lt (ho _ (.tail _ (.head _)) p hp)).symm, (Nat.ne_of_lt (ho _ (.tail _ (.tail _ (.head _))) p hp)).symm⟩
  · exact off.mem p hp
theorem sub3_of {I C D : Addr} {x y z : Obj} {tl nw : Led} : ∀ p ∈ (I, x) :: (C, y) :: (D, z) :: (tl ++ nw), p ∈ tl ++ (I, x) :: (C, y) :: (D, z) :: nw := by
  intro p hp
  simp only [List.mem_cons, List.mem_append] at hp ⊢
  rcases hp with h | h | h | h | h
  · exact .inr (.inl h)
  · exact .inr (.inr (.inl h))
  · exact .inr (.inr (.inr (.inl h)))
  · exact .inl h
  · exact .inr (.inr (.inr (.inr h)))
noncomputable def D.code : D → Fin 6
  | .nil => 0
  | .bool _ => 1
  | .num _ => 2
  | .text _ => 3
  | .light _ => 4
  | .heap _ => 5
noncomputable def codeStr : Fin 6 → List Nat
  | 0 => (Str.ofString "nil").cps.toList
  | 1 => (Str.ofString "boolean").cps.toList
  | 2 => (Str.ofString "number").cps.toList
  | 3 => (Str.ofString "text").cps.toList
  | 4 => (Str.ofString "light").cps.toList
  | 5 => (Str.ofString "heap").cps.toList
theorem sort_code (c : D) : c.sort.cps.toList = codeStr c.code := by cases c <;> rfl
theorem code_beq : ∀ i j : Fin 6, (codeStr i == codeStr j) = (i == j) := by decide
-- two sorts' words are the same just if the sorts are
theorem sort_beq (c d : D) : (c.sort.cps.toList == d.sort.cps.toList) = (c.code == d.code) := by rw [sort_code, sort_code, code_beq]
theorem code_ne {c d : D} (h : c.code ≠ d.code) : decide (c = d) = false := decide_eq_false (fun e => h (by rw [e]))
-- the names of the kinds from -1 on
noncomputable def namesF : Nat → List (List UInt8)
  | 0 => []
  | i + 1 => namesF i ++ [tagName (-1 + (i : Int))]
theorem namesF_ten : namesF 10 = [[110, 111, 32, 118, 97, 108, 117, 101], [110, 105, 108], [98, 111, 111, 108, 101, 97, 110], [117, 115, 101, 114, 100, 97, 116, 97], [110, 117, 109, 98, 101, 114], [115, 116, 114, 105, 110, 103], [116, 97, 98, 108, 101], [102, 117, 110, 99, 116, 105, 111, 110], [117, 115, 101, 114, 100, 97, 116, 97], [116, 104, 114, 101, 97, 100]] := by decide
-- the law's own end
theorem law_good {cl : Str → Option Addr} {mean : ExcName → Option Value} {ns : List Int} {s₁ : Shared} {h' : Heap} {tk : Nat} {L : Addr} {m : Str → Option Value} (F : Fr s₁.heap L h' m) (hg : s₁.gens = #[]) :
    GoodW PySem.Challenge.rw_nt0637_01.row.claim cl mean [ofPy (PyData.list (List.map PyData.int ns))] s₁ (Except.ok (Flow.ret (Value.bool true))) { heap := h', gens := s₁.gens, drawn := s₁.drawn, toks := tk, os := s₁.os } := by
  refine goodW_bool F hg (raisesW_false ?_) ?_
  · wrow_none_raised
  · wrow_post
-- the ends of the width
theorem pow_split {b : Int} (hb1 : 2 ≤ b) : (2 : Int) ^ b.toNat = 2 * 2 ^ (b - 1).toNat ∧ 2 ≤ (2 : Int) ^ (b - 1).toNat := by
  obtain ⟨k, rfl⟩ : ∃ k : Nat, b = (k : Int) + 2 := ⟨(b - 2).toNat, by (first | lia | omega)⟩
  have e1 : ((k : Int) + 2).toNat = (k + 1) + 1 := by (first | lia | omega)
  have e2 : ((k : Int) + 2 - 1).toNat = k + 1 := by (first | lia | omega)
  rw [e1, e2, Int.pow_succ]
  have : (1 : Int) ≤ 2 ^ k := by
    have := Int.pow_pos (n := 2) (m := k) (by decide)
    (first | lia | omega)
  have e3 : (2 : Int) ^ (k + 1) = 2 ^ k * 2 := Int.pow_succ _ _
  (first | lia | omega)
theorem wrap_of {n b m : Int} (hb1 : 2 ≤ b) (q : Int) (e : n = m + 2 ^ b.toNat * q) (h0 : -(2 ^ (b - 1).toNat) ≤ m) (h1 : m < 2 ^ (b - 1).toNat) : wrapZ n b = m := by
  obtain ⟨e2, hp⟩ := pow_split hb1
  unfold wrapZ
  rw [Int.fmod_eq_emod_of_nonneg _ (by (first | lia | omega)), e, Int.add_mul_emod_self_left]
  by_cases hm : 0 ≤ m
  · rw [Int.emod_eq_of_lt hm (by (first | lia | omega)), if_neg (by (first | lia | omega))]
  · have e3 : m % 2 ^ b.toNat = m + 2 ^ b.toNat := by
      rw [← Int.add_emod_right m, Int.emod_eq_of_lt (by (first | lia | omega)) (by (first | lia | omega))]
    rw [e3, if_pos (by (first | lia | omega))]; (first | lia | omega)
theorem wrap_greatest {b : Int} (hb1 : 2 ≤ b) : wrapZ (2 ^ (b - 1).toNat - 1) b = 2 ^ (b - 1).toNat - 1 := by
  obtain ⟨e2, hp⟩ := pow_split hb1
  exact wrap_of hb1 0 (by (first | lia | omega)) (by (first | lia | omega)) (by (first | lia | omega))
theorem wrap_over {b : Int} (hb1 : 2 ≤ b) : wrapZ (2 ^ (b - 1).toNat - 1 + 1) b = -(2 ^ (b - 1).toNat) := by
  obtain ⟨e2, hp⟩ := pow_split hb1
  exact wrap_of hb1 1 (by (first | lia | omega)) (by (first | lia | omega)) (by (first | lia | omega))
theorem wrap_under {b : Int} (hb1 : 2 ≤ b) : wrapZ (-(2 ^ (b - 1).toNat) - 1) b = 2 ^ (b - 1).toNat - 1 := by
  obtain ⟨e2, hp⟩ := pow_split hb1
  exact wrap_of hb1 (-1) (by (first | lia | omega)) (by (first | lia | omega)) (by (first | lia | omega))
theorem whole_of {b : Int} (hb1 : 2 ≤ b) : (2 : Int) ^ (b - 1).toNat - 1 - -(2 ^ (b - 1).toNat) + 1 = 2 ^ b.toNat := by
  obtain ⟨e2, hp⟩ := pow_split hb1
  (first | lia | omega)
theorem pow_le71 {b : Int} (hb2 : b ≤ 71) : (2 : Int) ^ (b - 1).toNat ≤ 2 ^ 70 := by
  have h : (2 : Nat) ^ (b - 1).toNat ≤ 2 ^ 70 := Nat.pow_le_pow_right (by decide) (by (first | lia | omega))
  exact_mod_cast h
theorem least_small {b : Int} (hb1 : 2 ≤ b) (hb2 : b ≤ 71) : (-(2 ^ (b - 1).toNat) : Int).natAbs < 10 ^ 40 := by
  obtain ⟨e2, hp⟩ := pow_split hb1
  have h := pow_le71 hb2
  have e3 : (10 : Nat) ^ 40 = 10000000000000000000000000000000000000000 := by decide
  have e4 : (2 : Int) ^ 70 = 1180591620717411303424 := by decide
  rw [e3]; rw [e4] at h; (first | lia | omega)
section
variable {S : Fs} {V : Env} {c : Act} {Γ Γ' : Gam} {n : Nat} {x x₂ y : Str} {pos xp xp2 yp tp sp cp : Pos} {a b e it elt ct tg : PySem.Expr} {r ra rb r1 r2 : Rv} {k k' : Nat} {rest body : List Stmt} {R : Flow → (Str → Option Value) → Heap → Prop} {sc : Scope} {cl : List (Str × Addr)} {l : Addr} {us : List Value} {cap : Nat}
-- a comprehension over a list of pairs, put into a name
theorem Ex.compP (Inv : Nat → List Value → Led → Prop) (ok : Ok S c n) (h : Ev (S.env c) c Γ it (.ex (.ref l))) (hm : (l, lst us cap) ∈ c.news) (hz : us.length ≤ 100)
    (hsw : swapsWith (.ListComp elt [⟨.Tuple [.Name x xp, .Name x₂ xp2] k tp, it, [], 0⟩] sc cp) (some (.Name y yp)) sp.line (S.env c) = pure true)
    (hclos : closureFor sc (S.env c) = pure cl) (hcell : ∀ z ∈ sc.names, z.2 ≠ .cell) (hkind : sc.kind = .function)
    (hnames : ∀ z ∈ sc.names, z.2 = .local → sc.names.lookup z.1 = some .local) (hx : sc.names.lookup x = some .local) (hx₂ : sc.names.lookup x₂ = some .local) (hxx : x ≠ x₂) (hy : okN S y .local = true)
    (hs : ∀ x, foldedSetIterable it (S.env c) x = pure x) (h0 : Inv 0 [] c.news)
    (step : ∀ q ys nw v, us[q]? = some v → Inv q ys nw → ∃ t v₁ v₂, v = .ref t ∧ (t, tup [v₁, v₂]) ∈ nw ∧ ∀ I C D oI oC m₂, LCg.NsObj oC m₂ → m₂ x = some v₁ → m₂ x₂ = some v₂ → LCg.Off3 I C D nw →
      EvN (compEnvC sc cl C (S.env c)) (c.led (inC I C D oI oC ys nw)) [] elt (CEnd I C D oI oC ys fun ys' nw' => (l, lst us cap) ∈ nw' ∧ Inv (q + 1) ys' nw'))
    (hsub : ∀ ys nw, Inv us.length ys nw → ∀ p ∈ c.news, p ∈ nw)
    (fin : ∀ ys nw D, Inv us.length ys nw → Ex S (c.led ((D, LCg.lst ys) :: nw)) ((y, .ex (.ref D)) :: Γ) rest R) :
    Ex S c Γ (.Assign [.Name y yp] (.ListComp elt [⟨.Tuple [.Name x xp, .Name x₂ xp2] k tp, it, [], 0⟩] sc cp) sp :: rest) R := fun m s Q E O G F N kk =>
  wpAny_execs_cons (LCp.Assign_ListComp_P F rfl hsw hclos hcell hkind hnames hx hx₂ hxx (okN_1 hy) (by show (S.cs.kind == .class || (S.cs.kind == .module && c.L != mainGlobals)) = false; rw [ok.hk]; rfl)
    (h m s _ _ G F N fun v h' tk' F1 N1 hv => by
      cases hv
      refine LCp.SrcLP.ledger ok.hh F1 N1 hm (by rw [List.size_toArray, sizeLine_eq]; (first | lia | omega)) fun g => ?_
      refine compP_inv (n := us.toArray.size) Inv ?_ ?_ _ 0 [] _ (Nat.zero_add _) h0
      · intro q ys nw hq hI v hP
        obtain ⟨t, v₁, v₂, e, hmt, hst⟩ := step q ys nw v (by simpa using hP) hI
        refine ⟨t, _, v₁, v₂, 0, e, hmt, rfl, rfl, ?_⟩
        intro I oI C oC D m₂ h tk E' hC hx1 hx2 F2 N2 off ne
        exact hst I C D oI oC m₂ hC hx1 hx2 off m _ _ _ (fun _ _ e => by cases e) F2 N2 fun y nw' h' tk' F3 N3 ⟨nx, hn, ho, hl, hJ⟩ => LCg.CompEnd.intro F3 N3 nx hn ho (.inr ⟨_, hl, rfl, _, rfl⟩) hJ
      · intro ys nw hI DD h tk F3 N3 o3
        rw [List.size_toArray] at hI
        exact fin ys nw DD hI _ _ _ _ O ((GOk.mono (nw := (DD, LCg.lst ys) :: nw) G fun p hp => List.mem_cons_of_mem _ (hsub ys nw hI p hp)).set (r := .ex (.ref DD)) rfl) F3 N3 kk) hs)
-- a pair of a pair and a value
theorem Am.pair2 {z : Str} {zp tp2 : Pos} {v1 v2 v3 : Value} {t : Addr} {p : Value → Heap → Prop} (ok : Ok S c n) (hx : okN S x .local = true) (hy : okN S y .local = true) (hz : okN S z .local = true) (hm : (t, tup [v1, v2]) ∈ c.news) (hp : ∀ v h, p v h → ∃ T, v = .ref T ∧ IsTup h T #[.ref t, v3])
    (h1 : ra.ok c v1) (h2 : rb.ok c v2) (h3 : r.ok c v3) : Am S c Γ (.Tuple [.Tuple [.Name x xp, .Name y yp] k tp, .Name z zp] k' tp2) p ((z, r) :: (y, rb) :: (x, ra) :: Γ) := fun m s v Q E G F N hv kk => by
  obtain ⟨T, rfl, hT⟩ := hp _ _ hv
  refine assign_Tuple_tuple ok.hh hT rfl rfl fun h5 he => ?_
  have he' : ∀ b o, s.heap.get? b = some o → h5.get? b = some o := fun b o e => he b o (Nat.ne_of_lt (Heap.lt_size e)) e
  have F5 := F.keeps he'
  have N5 := N.grown he'
  refine assignInOrder_cons (assign_Tuple_tuple (x1 := k) (items := #[v1, v2]) ok.hh ⟨_, (N5 _ hm).1, rfl, _, rfl⟩ rfl rfl fun h6 he6 => ?_)
  have he6' : ∀ b o, h5.get? b = some o → h6.get? b = some o := fun b o e => he6 b o (Nat.ne_of_lt (Heap.lt_size e)) e
  have F6 := F5.keeps he6'
  have N6 := N5.grown he6'
  refine assignInOrder_cons (assign_Name (storeX_L F6 N6 (fun h7 F7 N7 => ?_) ok.hk (okN_1 hx)))
  refine assignInOrder_cons (assign_Name (storeX_L F7 N7 (fun h8 F8 N8 => ?_) ok.hk (okN_1 hy)))
  refine assignInOrder_nil (assignInOrder_cons (assign_Name (storeX_L F8 N8 (fun h9 F9 N9 => ?_) ok.hk (okN_1 hz))))
  exact assignInOrder_nil (kk _ h9 _ F9 N9 (((G.set h1).set h2).set h3))
end
section
variable {S : Fs} {V : Env} {c : Act} {Γ Γ' : Gam} {n : Nat} {x x₂ y : Str} {pos xp xp2 yp tp sp cp lp : Pos} {a b e it elt ct tg : PySem.Expr} {r ra rb r1 r2 : Rv} {k k' : Nat} {rest body : List Stmt} {R : Flow → (Str → Option Value) → Heap → Prop} {l : Addr} {vs : List Value} {cap : Nat} {v : Value}
theorem Ev.lenL (ok : Ok S c n) (hb : okN S (Str.ofString "len") .globalImplicit = true) (h : Ev (S.env c) c Γ e (.ex (.ref l))) (hm : (l, lst vs cap) ∈ c.news) (hz : vs.length ≤ 100) (hs : ∀ env, starEach [e] env = (false, eval e env) :: starEach [] env := by intro _; rfl) : Ev (S.env c) c Γ (.Call (.Name (Str.ofString "len") xp) [e] [] pos) (.int vs.length) :=
  Ev.bcall ok hb (g_len _) b_len (by decide) (.cons h .nil hs) fun us m s Q E hvs F N k => by
    cases hvs with
    | cons h1 h2 =>
      cases h2
      cases h1
      refine PyProof.Rows.len_list (items := vs.toArray) ⟨_, (N _ hm).1, rfl, _, rfl⟩ (by rw [List.size_toArray]; (first | lia | omega)) ?_
      rw [List.size_toArray]
      exact k _ _ ⟨_, rfl⟩
theorem Bn.itemL {i : Int} (hm : (l, lst vs cap) ∈ c.news) (h0 : 0 ≤ i) (h1 : i < 2 ^ 63) (hv : vs[i.toNat]? = some v) (hs : ∀ o i, subscripted b false o i = operate [o, i] (getItem o i)) : Bn c (subscriptTail a b) (.ex (.ref l)) (.int i) (.ex v) := fun m u w s Q E F N hu ⟨t, hw⟩ k => by
  cases hu
  subst hw
  exact item_led N hm h0 h1 hv (k _ s.toks rfl) (hs _ _)
-- a list and one item behind it
noncomputable def AddTo (nw0 : Led) (ys : List Value) (u : Value) (nw : Led) : Prop := ∃ D, u = .ref D ∧ nw = (D, lst ys 0) :: nw0 ∧ ∀ p ∈ nw0, p.1 < D
theorem EvN.addOne (h : Ev (S.env c) c Γ a (.ex (.ref l))) (hm : (l, lst vs cap) ∈ c.news) (h2 : Ev (S.env c) c Γ e (.ex v)) (hz : vs.length ≤ 100) (hs : ∀ env, starEach [e] env = (false, eval e env) :: starEach [] env := by intro _; rfl) : EvN (S.env c) c Γ (.BinOp a .Add (.List [e] lp) pos) (AddTo c.news (vs ++ [v])) := fun m s Q E G F N k =>
  wpAny_BinOp (h m s _ _ G F N fun u _ _ F1 N1 hu => List_ (args_cons (h2 m _ _ _ G F1 N1 fun w _ _ F2 N2 hw => args_nil (newList_K (vs := [w]) F2 N2 (fun D h' F3 N3 hl => by
    cases hu
    cases hw
    refine kmk_add_lit (zs := vs ++ [v]) F3 N3 (its := vs.toArray) (its2 := #[v]) ⟨_, (N3 _ (.tail _ hm)).1, rfl, _, rfl⟩ ⟨_, (N3 _ (.head _)).1, rfl, _, rfl⟩ rfl ?_ (by rw [sizeLine_eq]; simp; (first | lia | omega))
    intro D2 h4 F4 N4 l4
    exact k _ _ h4 _ F4 (fun p hp => N4 p (by rcases List.mem_cons.mp hp with rfl | hp; exact .head _; exact .tail _ (.tail _ hp))) ⟨D2, rfl, rfl, fun p hp => l4 p (.tail _ hp)⟩) (Nat.le_of_ble_eq_true rfl))) (hs _)))
-- a name takes what was made
theorem Ex.assignN2 {P : Value → Led → Prop} (ok : Ok S c n) (hb : okN S x .local = true) (h : EvN (S.env c) c Γ e P) (hs : ∀ env, swapsWith e (some (.Name x xp)) pos.line env = pure false) (hsub : ∀ v nw, P v nw → ∀ p ∈ c.news, p ∈ nw)
    (h3 : ∀ v nw, P v nw → Ex S (c.led nw) ((x, .ex v) :: Γ) rest R) : Ex S c Γ (.Assign [.Name x xp] e pos :: rest) R := fun m s Q E O G F N kk =>
  wpAny_execs_cons (wpAny_Assign_Name (h m s _ _ G F N fun v nw _ _ F1 N1 hv => storeX_L F1 N1 (fun h' F2 N2 => h3 v nw hv _ _ _ _ O ((GOk.mono G (hsub v nw hv)).set (r := .ex v) rfl) F2 N2 kk) ok.hk (okN_1 hb)) (hs _))
end
theorem g_limits (P : Params) : nsIn (Mine.KF P) mainGlobals (Str.ofString "Limits") = some (some (.ref 47)) := by k_is
theorem limits_ok : ClsOk (Str.ofString "Limits") 47 30 := ⟨fun _ => g_limits _, fun _ => by k_is, fun _ => by k_is, fun _ => by k_is, fun _ => by k_is⟩
theorem lim_set1 : ∀ P, findIn (Mine.KF P) (.ref 47) (Str.ofString "__setattr__") = some (some (.builtin "object.__setattr__")) := fun _ => by k_is
theorem lim_set2 : ∀ P, plainOver (Mine.KF P) 47 = true := fun _ => by k_is
theorem lim_set4 : ∀ P, hasDictIn (Mine.KF P) 47 = true := fun _ => by k_is
theorem lim_set (nm : Str) (h : ∀ P, takerIn (Mine.KF P) 47 nm = some none) : SetOk 47 nm := ⟨lim_set1, lim_set2, h, lim_set4⟩
theorem binds_as {s : Shared} {fd : FuncData} {args : Args} {b b' : List (Str × Value)} (h : BindsTo s fd args b) (e : b = b') : BindsTo s fd args b' := e ▸ h
section
variable {S : Fs} {V : Env} {c : Act} {Γ Γ' : Gam} {n : Nat} {x x₂ y : Str} {pos xp xp2 yp tp sp cp lp : Pos} {a b e it elt ct tg : PySem.Expr} {w : Int}
theorem Ok.underK {C : Addr} {vals : List Value} {kw : List (Str × Value)} (ok : Ok S c (n + 1)) : Ok S { c with A := c.A.under (.builtin "type.__call__" ⟨.ref C :: vals, kw⟩) } n :=
  ⟨ok.B, ok.X, ok.T, by
    have : ∀ (A : Around) (l : List Env), A.frames = some l → (A.under (.builtin "type.__call__" ⟨.ref C :: vals, kw⟩)).frames = some l := by
      rintro ⟨hd, d, fr, gs, u⟩ l h
      cases h; rfl
    exact this _ _ ok.fr, ok.hh, ok.hk, by have := ok.hd; show c.A.depth + 1 + n < _; (first | lia | omega), by have := ok.hu; show c.A.units + 1 + 20 * n < _; (first | lia | omega)⟩
theorem EvN.limits (ok : Ok S c 2) (hb : okN S (Str.ofString "Limits") .globalImplicit = true) (h : Ev (S.env c) c Γ e (.int w)) : EvN (S.env c) c Γ (.Call (.Name (Str.ofString "Limits") xp) [] [⟨some (Str.ofString "width"), e, yp⟩] pos) (fun v nw => (∀ p ∈ c.news, p ∈ nw) ∧ LimRel nw v w) := fun m s Q E G F N k =>
  wpAny_Call_Name_kw (Ev.glob ok hb (g_limits _) m s _ _ G F N fun v _ _ F1 N1 hv => by
    cases hv
    refine callWith_KW0 ok.X (limits_ok.k _) rfl (kwAll_cons (h m _ _ _ G F1 N1 fun u h2 tk2 F2 N2 hu => kwAll_nil ⟨ok.X.keeps F2.keep, ?_⟩))
    obtain ⟨t, rfl⟩ := hu
    have X : (Mine.KF c.w.params).In c.h₀ := ok.X
    refine call_cls F2 X N2 (limits_ok.m _) (limits_ok.i _) (limits_ok.f _) fun y dx h' F3 N3 hl hlt => ?_
    let c' : Act := { c with A := c.A.under (.builtin "type.__call__" ⟨[.ref 47], [(Str.ofString "width", .int w t)]⟩), news := inst 47 y dx :: (dx, dictOf [] 0) :: c.news }
    have ok' : Ok S c' 1 := (ok.underK (C := 47) (vals := []) (kw := [(Str.ofString "width", .int w t)])).led _
    refine does_code (c := c') (lev := 0) (rs := [.ex (.ref y), .int w, .int 250, .int 60, .int 200, .int 40, .int 200, .int 2000, .int 50, .int 1000000000, .int 1000000]) (vs := [.ref y, .int w t, .int 250 229, .int 60 230, .int 200 231, .int 40 232, .int 200 233, .int 2000 234, .int 50 235, .int 1000000000 236, .int 1000000 237])
      (xs := [Str.ofString "self", Str.ofString "width", Str.ofString "registers", Str.ofString "upvalues", Str.ofString "local_names", Str.ofString "ccalls", Str.ofString "frames", Str.ofString "stack", Str.ofString "flush", Str.ofString "steps", Str.ofString "text"])
      (P := fun _ v nw => v = .none ∧ (∀ p ∈ c.news, p ∈ nw) ∧ LimRel nw (.ref y) w) (RR := NxtP fun _ v nw => v = .none ∧ (∀ p ∈ c.news, p ∈ nw) ∧ LimRel nw (.ref y) w) (Pre := fun nws => nws = inst 47 y dx :: (dx, dictOf [] 0) :: c.news) (fun P => by exact rfl) (fun P => by k_is) (by decide) rfl rfl rfl (by decide) (fun _ _ _ _ _ _ _ h => h) nxtP_out (fun c2 ok2 hc2 => ?_) ok' ?_ rfl (.cons rfl (.cons ⟨_, rfl⟩ (.cons ⟨_, rfl⟩ (.cons ⟨_, rfl⟩ (.cons ⟨_, rfl⟩ (.cons ⟨_, rfl⟩ (.cons ⟨_, rfl⟩ (.cons ⟨_, rfl⟩ (.cons ⟨_, rfl⟩ (.cons ⟨_, rfl⟩ (.cons ⟨_, rfl⟩ .nil))))))))))) F3 N3 fun v nw h' tk' F' N' hP => ?_
    · refine Ex.setattr ok2 hc2 hl hlt rfl (lim_set _ fun _ => by k_is) rfl (Nat.le_of_ble_eq_true rfl) (Ev.loc ok2 rfl) (Ev.loc ok2 rfl) (fun _ => rfl) fun t1 u1 => ?_
      refine Ex.setattr (ok2.led _) rfl hl hlt rfl (lim_set _ fun _ => by k_is) rfl (Nat.le_of_ble_eq_true rfl) (Ev.loc (ok2.led _) rfl) (Ev.loc (ok2.led _) rfl) (fun _ => rfl) fun t2 u2 => ?_
      refine Ex.setattr (ok2.led _) rfl hl hlt rfl (lim_set _ fun _ => by k_is) rfl (Nat.le_of_ble_eq_true rfl) (Ev.loc (ok2.led _) rfl) (Ev.loc (ok2.led _) rfl) (fun _ => rfl) fun t3 u3 => ?_
      refine Ex.setattr (ok2.led _) rfl hl hlt rfl (lim_set _ fun _ => by k_is) rfl (Nat.le_of_ble_eq_true rfl) (Ev.loc (ok2.led _) rfl) (Ev.loc (ok2.led _) rfl) (fun _ => rfl) fun t4 u4 => ?_
      refine Ex.setattr (ok2.led _) rfl hl hlt rfl (lim_set _ fun _ => by k_is) rfl (Nat.le_of_ble_eq_true rfl) (Ev.loc (ok2.led _) rfl) (Ev.loc (ok2.led _) rfl) (fun _ => rfl) fun t5 u5 => ?_
      refine Ex.setattr (ok2.led _) rfl hl hlt rfl (lim_set _ fun _ => by k_is) rfl (Nat.le_of_ble_eq_true rfl) (Ev.loc (ok2.led _) rfl) (Ev.loc (ok2.led _) rfl) (fun _ => rfl) fun t6 u6 => ?_
      refine Ex.setattr (ok2.led _) rfl hl hlt rfl (lim_set _ fun _ => by k_is) rfl (Nat.le_of_ble_eq_true rfl) (Ev.loc (ok2.led _) rfl) (Ev.loc (ok2.led _) rfl) (fun _ => rfl) fun t7 u7 => ?_
      refine Ex.setattr (ok2.led _) rfl hl hlt rfl (lim_set _ fun _ => by k_is) rfl (Nat.le_of_ble_eq_true rfl) (Ev.loc (ok2.led _) rfl) (Ev.loc (ok2.led _) rfl) (fun _ => rfl) fun t8 u8 => ?_
      refine Ex.setattr (ok2.led _) rfl hl hlt rfl (lim_set _ fun _ => by k_is) rfl (Nat.le_of_ble_eq_true rfl) (Ev.loc (ok2.led _) rfl) (Ev.loc (ok2.led _) rfl) (fun _ => rfl) fun t9 u9 => ?_
      refine Ex.setattr (ok2.led _) rfl hl hlt rfl (lim_set _ fun _ => by k_is) rfl (Nat.le_of_ble_eq_true rfl) (Ev.loc (ok2.led _) rfl) (Ev.loc (ok2.led _) rfl) (fun _ => rfl) fun t10 u10 => ?_
      exact Ex.nil fun m h G N => ⟨rfl, _, N, rfl, fun p hp => .tail _ (.tail _ hp), .mk (.head _) (.tail _ (.head _)) rfl rfl⟩
    · exact binds_as (binds_K (K := Mine.KF c.w.params) (X.keeps F3.keep) rfl (by exact rfl) rfl rfl rfl) rfl
    · obtain ⟨rfl, hP⟩ := hP
      exact ⟨rfl, k _ nw h' tk' F' N' hP⟩)
end
section
variable {S : Fs} {V : Env} {c : Act} {Γ Γ' : Gam} {n : Nat} {x x₂ y : Str} {pos xp xp2 yp tp sp cp lp : Pos} {a b e it elt ct tg : PySem.Expr} {w : Int} {r : Rv}
-- a call that makes objects
theorem EvN.callE {f : Addr} {lev : Nat} {e₁ : PySem.Expr} {es : List PySem.Expr} {rs : List Rv} {P : Act → Value → Led → Prop} (ok : Ok S c n) (hn : Ev V c Γ (.Name x xp) (.ex (.ref f))) (hf : keepIn (KK c) (.ref f) = true)
    (C : Does lev f rs P) (hl : lev ≤ n) (hes : EvL V c Γ (e₁ :: es) rs) : EvN V c Γ (.Call (.Name x xp) (e₁ :: es) [] pos) (P c) := fun m s Q E G F N h2 =>
  Call_ (hn m s _ _ G F N fun v _ _ F1 N1 hv => by
    cases hv
    refine callWith_K ok.X hf (hes.args m _ _ _ G F1 N1 fun vs _ _ F2 N2 hvs => ⟨ok.X.keeps F2.keep, ?_⟩) (hes.head _) (hes.tail _)
    exact C S c (ok.mono hl) vs m _ _ _ hvs F2 N2 fun v nw _ _ F3 N3 hv => h2 v nw _ _ F3 N3 hv)
-- the limits' ends, asked for as methods
theorem Ev.greatest {l : Addr} (ok : Ok S c n) (hl : 1 ≤ n) (h2 : 2 ≤ w) (h7 : w ≤ 71) (h : Ev (S.env c) c Γ (.Name x xp) (.ex (.ref l))) (hL : LimRel c.news (.ref l) w) (hM : IsMeth (S.env c) x xp (Str.ofString "greatest") yp [] pos) :
    Ev (S.env c) c Γ (.Call (.Attribute (.Name x xp) (Str.ofString "greatest") yp) [] [] pos) (.int (2 ^ (w - 1).toNat - 1)) := fun m s Q E G F N k => by
  obtain ⟨pl, hM⟩ := hM
  have X : (Mine.KF c.w.params).In c.h₀ := ok.X
  exact MethodCall_ (pl := pl) (h m s _ _ G F N fun v _ _ F1 N1 hv => by
    cases hv
    cases id hL with
    | mk m1 m2 g1 g2 =>
      refine PySem.W.method_inst F1 X (InstAt.of_news N1 m1 m2) (by k_is) (by k_is) (by k_is) g1 ?_
      refine PySem.W.callWith_K0 (X.keeps F1.keep) (by k_is) ?_
      exact greatest_r h2 h7 S c (ok.mono hl) [.ref _] m _ _ _ (.cons hL .nil) F1 N1 k) hM
theorem Ev.least {l : Addr} (ok : Ok S c n) (hl : 1 ≤ n) (h2 : 2 ≤ w) (h7 : w ≤ 71) (h : Ev (S.env c) c Γ (.Name x xp) (.ex (.ref l))) (hL : LimRel c.news (.ref l) w) (hM : IsMeth (S.env c) x xp (Str.ofString "least") yp [] pos) :
    Ev (S.env c) c Γ (.Call (.Attribute (.Name x xp) (Str.ofString "least") yp) [] [] pos) (.int (-(2 ^ (w - 1).toNat))) := fun m s Q E G F N k => by
  obtain ⟨pl, hM⟩ := hM
  have X : (Mine.KF c.w.params).In c.h₀ := ok.X
  exact MethodCall_ (pl := pl) (h m s _ _ G F N fun v _ _ F1 N1 hv => by
    cases hv
    cases id hL with
    | mk m1 m2 g1 g2 =>
      refine PySem.W.method_inst F1 X (InstAt.of_news N1 m1 m2) (by k_is) (by k_is) (by k_is) g2 ?_
      refine PySem.W.callWith_K0 (X.keeps F1.keep) (by k_is) ?_
      exact least_r h2 h7 S c (ok.mono hl) [.ref _] m _ _ _ (.cons hL .nil) F1 N1 k) hM
end
inductive BytesAre : List Value → List (List UInt8) → Prop where
  | nil : BytesAre [] []
  | cons (x : List UInt8) (t : Tok) {vs : List Value} {xs : List (List UInt8)} : BytesAre vs xs → BytesAre (.bytes x.toArray t :: vs) (x :: xs)
theorem BytesAre.length {vs : List Value} {xs : List (List UInt8)} (h : BytesAre vs xs) : vs.length = xs.length := by
  induction h with
  | nil => rfl
  | cons x t _ ih => rw [List.length_cons, List.length_cons, ih]
theorem BytesAre.eqAt {A : Around} {s : Shared} {vs ws : List Value} {xs : List (List UInt8)} (h : BytesAre vs xs) (k : BytesAre ws xs) : ∀ j (h1 : j < vs.length) (h2 : j < ws.length), PySem.SeqAt.EqAt A s vs[j] ws[j] true := by
  induction h generalizing ws with
  | nil => exact fun j h1 => absurd h1 (Nat.not_lt_zero _)
  | cons x t h ih =>
    cases k with
    | cons _ u k =>
      intro j h1 h2
      cases j with
      | zero => exact fun prog w E Q hq => eqBool_bytes (by simpa using hq)
      | succ j => exact ih k j (by simpa using h1) (by simpa using h2)
-- two lists of the same texts are not unequal
theorem lists_same {prog : Program} {w : World} {A : Around} {E : Value → Shared → Prop} {s : Shared} {l b : Addr} {vs ws : List Value} {xs : List (List UInt8)} {Q : Value → Shared → Prop}
    (h1 : s.heap.IsList l vs.toArray) (h2 : s.heap.IsList b ws.toArray) (hv : BytesAre vs xs) (hw : BytesAre ws xs) (hu : A.units < cLine) (h : Q (.bool false) s) :
    wpAny (model prog w) A (compareOp .NotEq (.ref l) (.ref b)) Q E s := by
  have H := PySem.SeqAt.RcNeAt.lists (A := A) (s := s) (e := fun _ => true) h1 h2 (by simp [hv.length, hw.length]) hu (by
    intro k hk hk2
    have := BytesAre.eqAt (A := A.in1) (s := s) hv hw k (by simpa using hk) (by simpa using hk2)
    simpa using this)
  have e : (!(List.range vs.toArray.size).all (fun _ => true)) = false := by rw [List.all_eq_true.mpr (fun _ _ => rfl)]; rfl
  exact H prog w E Q (by rw [e]; exact h)
theorem BytesAre.snoc {v : Value} {x : List UInt8} (h : ∃ t, v = .bytes x.toArray t) {vs : List Value} {xs : List (List UInt8)} (k : BytesAre vs xs) : BytesAre (vs ++ [v]) (xs ++ [x]) := by
  obtain ⟨t, rfl⟩ := h
  induction k with
  | nil => exact .cons _ _ .nil
  | cons y t _ ih => exact .cons y t ih
-- what is held in two pairs of one sort is the same just if the data are
noncomputable def tagC : Fin 6 → Int
  | 0 => 0
  | 1 => 1
  | 2 => 3
  | 3 => 4
  | 4 => 2
  | 5 => -1
theorem tag_code (d : D) : d.tag = tagC d.code := by cases d <;> rfl
theorem int_dec (x y : Int) : (x == y) = decide (x = y) := rfl
theorem held_eq {prog : Program} {w : World} {A : Around} {E : Value → Shared → Prop} {s : Shared} {v u : Value} {c d : D} {Q : Value → Shared → Prop} (hv : HRel v c) (hu : HRel u d) (hc : c.code = d.code)
    (h : Q (.bool (decide (c = d))) s) : wpAny (model prog w) A (compareOp .Eq v u) Q E s := by
  have ht : d.tag = c.tag := by rw [tag_code, tag_code, hc]
  cases c with
  | text x =>
    obtain ⟨y, rfl⟩ := tag4_inv ht
    obtain ⟨t, rfl⟩ := hv
    obtain ⟨t', rfl⟩ := hu
    exact PySem.W.eq_bytes ((beq_dec x y).trans (dec_of ⟨fun e => congrArg D.text e, D.text.inj⟩) ▸ h)
  | nil =>
    obtain rfl := tag0_inv ht
    obtain ⟨t, rfl⟩ := hv
    obtain ⟨t', rfl⟩ := hu
    exact PyProof.Rows.eq_int h
  | bool b =>
    obtain ⟨b', rfl⟩ := tag1_inv ht
    obtain ⟨t, rfl⟩ := hv
    obtain ⟨t', rfl⟩ := hu
    exact PyProof.Rows.eq_int ((show ((if b then (1 : Int) else 0) == (if b' then (1 : Int) else 0)) = decide (D.bool b = D.bool b') by cases b <;> cases b' <;> rfl) ▸ h)
  | num n =>
    obtain ⟨y, rfl⟩ := tag3_inv ht
    obtain ⟨t, rfl⟩ := hv
    obtain ⟨t', rfl⟩ := hu
    exact PyProof.Rows.eq_int ((int_dec n y).trans (dec_of ⟨fun e => congrArg D.num e, D.num.inj⟩) ▸ h)
  | light n =>
    obtain ⟨y, rfl⟩ := tag2_inv ht
    obtain ⟨t, rfl⟩ := hv
    obtain ⟨t', rfl⟩ := hu
    exact PyProof.Rows.eq_int ((int_dec n y).trans (dec_of ⟨fun e => congrArg D.light e, D.light.inj⟩) ▸ h)
  | heap n =>
    obtain ⟨y, rfl⟩ := tagm_inv ht
    obtain ⟨t, rfl⟩ := hv
    obtain ⟨t', rfl⟩ := hu
    exact PyProof.Rows.eq_int ((int_dec n y).trans (dec_of ⟨fun e => congrArg D.heap e, D.heap.inj⟩) ▸ h)
section
variable {c : Act} {l b : Addr} {us vs : List Value} {n k : Nat} {xs : List (List UInt8)}
theorem Bn.nelists (hA : c.A.units < cLine) (h1 : (l, lst us n) ∈ c.news) (h2 : (b, lst vs k) ∈ c.news) (hu : BytesAre us xs) (hv : BytesAre vs xs) : Bn c (compareOp .NotEq) (.ex (.ref l)) (.ex (.ref b)) (.bool false) := fun m u v s Q E F N e1 e2 kk => by
  cases e1
  cases e2
  exact lists_same ⟨_, (N _ h1).1, rfl, _, rfl⟩ ⟨_, (N _ h2).1, rfl, _, rfl⟩ hu hv hA (kk _ s.toks rfl)
theorem Bn.eqheld {d e : D} (h : d.code = e.code) : Bn c (compareOp .Eq) (.held d) (.held e) (.bool (decide (d = e))) := fun m u v s Q E F N hu hv k => held_eq hu hv h (k _ s.toks rfl)
end
theorem g_drawn (P : Params) : nsIn (Mine.KF P) mainGlobals (Str.ofString "_law_drawn") = some (some (.ref 240)) := by k_is
theorem k_drawn (P : Params) : keepIn (Mine.KF P) (.ref 240) = true := by k_is
theorem g_made (P : Params) : nsIn (Mine.KF P) mainGlobals (Str.ofString "_law_made") = some (some (.ref 247)) := by k_is
theorem k_made (P : Params) : keepIn (Mine.KF P) (.ref 247) = true := by k_is
theorem g_one (P : Params) : nsIn (Mine.KF P) mainGlobals (Str.ofString "_law_one_right") = some (some (.ref 273)) := by k_is
theorem k_one (P : Params) : keepIn (Mine.KF P) (.ref 273) = true := by k_is
theorem g_txr (P : Params) : nsIn (Mine.KF P) mainGlobals (Str.ofString "_law_text_right") = some (some (.ref 278)) := by k_is
theorem k_txr (P : Params) : keepIn (Mine.KF P) (.ref 278) = true := by k_is
section
variable {S : Fs} {V : Env} {c : Act} {Γ Γ' : Gam} {n : Nat} {x y : Str} {pos xp yp lp bp : Pos} {a b e : PySem.Expr} {es : List PySem.Expr} {rest body : List Stmt} {R : Flow → (Str → Option Value) → Heap → Prop} {i : Int} {l l2 : Addr} {us vs : List Value} {n1 n2 : Nat} {xs ys : List (List UInt8)} {d d' : D}
theorem EvN.monoV {P P' : Value → Led → Prop} (h : EvN V c Γ e P) (hP : ∀ v nw, P v nw → P' v nw) : EvN V c Γ e P' := fun m s Q E G F N k => h m s Q E G F N fun v nw h' tk' F' N' q => k v nw h' tk' F' N' (hP v nw q)
-- a test that fails, and the rest
theorem Ex.ifF (h : Tv (S.env c) c Γ e false) (h0 : Ex S c Γ rest R) : Ex S c Γ (.If e body [] pos :: rest) R := fun m s Q E O G F N k =>
  wpAny_execs_cons (wpAny_If (h m s _ _ _ rfl G F N fun _ _ F1 N1 => by
    simp only [Bool.false_eq_true, if_false]
    exact wpAny_execs_nil (h0 m _ _ _ O G F1 N1 k)))
theorem Tv.or2F (h1 : Tv V c Γ a false) (h2 : Tv V c Γ b false) : Tv V c Γ (.BoolOp .Or [a, b] pos) false := Tv.or (t := false) (t' := false) h1 fun _ => Tv.or (t := false) (t' := false) h2 fun _ => Tv.or_nil
theorem Tv.notT (h : Tv V c Γ e true) : Tv V c Γ (.UnaryOp .Not e pos) false := Tv.not h
theorem Tv.neS (h1 : Ev V c Γ a (.int i)) (h2 : Ev V c Γ b (.int i)) (hm : behindInMarks .NotEq b = false := by rfl) : Tv V c Γ (.Compare a [.NotEq] [b] pos) false := Tv.cmp h1 h2 (Bn.ne_same i) hm
theorem Tv.neB {z : List UInt8} (h1 : Ev V c Γ a (.byt z)) (h2 : Ev V c Γ b (.byt z)) (hm : behindInMarks .NotEq b = false := by rfl) : Tv V c Γ (.Compare a [.NotEq] [b] pos) false := Tv.cmp h1 h2 (by
  have h : (z != z) = false := by simp
  exact h ▸ Bn.nebyt) hm
theorem AllOk.texts {xs : List (List UInt8)} {vs : List Value} (h : AllOk c (xs.map .byt) vs) : BytesAre vs xs := by
  induction xs generalizing vs with
  | nil => cases h; exact .nil
  | cons x xs ih =>
    cases h with
    | cons h1 h2 =>
      obtain ⟨t, rfl⟩ := h1
      exact .cons _ _ (ih h2)
theorem BytesAre.app {us vs : List Value} {xs ys : List (List UInt8)} (h : BytesAre us xs) (k : BytesAre vs ys) : BytesAre (us ++ vs) (xs ++ ys) := by
  induction h with
  | nil => exact k
  | cons x t _ ih => exact .cons x t ih
-- a list against the sum of a written one and another
theorem Tv.neSum (hA : c.A.units < cLine) (h1 : Ev (S.env c) c Γ a (.ex (.ref l))) (hm1 : (l, lst us n1) ∈ c.news) (hu : BytesAre us (xs ++ ys)) (h2 : EvL (S.env c) c Γ es (xs.map .byt)) (h3 : ∀ nw, Ev (S.env (c.led nw)) (c.led nw) Γ b (.ex (.ref l2))) (hm2 : (l2, lst vs n2) ∈ c.news) (hv : BytesAre vs ys) (hz : xs.length ≤ 100) (hz2 : ys.length ≤ 100) :
    Tv (S.env c) c Γ (.Compare a [.NotEq] [.BinOp (.List es lp) .Add b bp] pos) false := fun m s wh Q E hw G F N kk =>
  wpAny_isTrue_Compare1 (h1 m s _ _ G F N fun u _ _ F1 N1 hu2 => by
    cases hu2
    refine wpAny_BinOp (List_ (h2.args m _ _ _ G F1 N1 fun ws _ _ F2 N2 hws => newList_K F2 N2 (fun D h' F3 N3 hl => h3 ((D, lst ws 0) :: c.news) m _ _ _ (GOk.mono G fun p hp => .tail _ hp) F3 N3 fun w _ _ F4 N4 hw => ?_) (by rw [hws.length, List.length_map, sizeLine_eq]; (first | lia | omega))))
    cases hw
    have hB := AllOk.texts hws
    refine kmk_add_lit (zs := ws ++ vs) F4 N4 (its := ws.toArray) (its2 := vs.toArray) ⟨_, (N4 _ (.head _)).1, rfl, _, rfl⟩ ⟨_, (N4 _ (.tail _ hm2)).1, rfl, _, rfl⟩ rfl ?_ (by rw [sizeLine_eq]; show ws.length + vs.length ≤ _; rw [hB.length, hv.length]; (first | lia | omega))
    intro D2 h4 F5 N5 l5
    refine lists_same ⟨_, (N5 _ (.tail _ (.tail _ hm1))).1, rfl, _, rfl⟩ ⟨_, (N5 _ (.head _)).1, rfl, _, rfl⟩ hu (hB.app hv) hA (wpAny_truthy_bool ?_)
    exact kk h4 _ F5 fun p hp => N5 p (.tail _ (.tail _ hp))) rfl
theorem strEq_code (d d' : D) : strEq d.sort d'.sort = decide (d.code = d'.code) := sort_beq d d'
-- two data of one sort that hold the same
theorem Ev.sameD {k kp : PySem.Expr} (h1 : Ev V c Γ a (.str d.sort)) (h2 : Ev V c Γ k (.str d'.sort)) (h3 : Ev V c Γ b (.held d)) (h4 : Ev V c Γ kp (.held d')) (hm : behindInMarks .Eq k = false := by rfl) (hm2 : behindInMarks .Eq kp = false := by rfl) : Ev V c Γ (.BoolOp .And [.Compare a [.Eq] [k] xp, .Compare b [.Eq] [kp] yp] pos) (.bool (decide (d = d'))) := by
  by_cases h : d.code = d'.code
  · exact Ev.and2 (t := true) (Ev.bool_of (by rw [strEq_code]; exact decide_eq_true h) (Ev.cmp h1 h2 Bn.eqstr hm)) fun _ => Ev.cmp h3 h4 (Bn.eqheld h) hm2
  · exact Ev.bool_of (i := false && true) (code_ne h).symm (Ev.and2 (t := false) (Ev.bool_of (by rw [strEq_code]; exact decide_eq_false h) (Ev.cmp h1 h2 Bn.eqstr hm)) fun e => by cases e)
theorem Ex.weaken {ss : List Stmt} {R' : Flow → (Str → Option Value) → Heap → Prop} (h : Ex S c Γ ss R) (hR : ∀ f m h, R f m h → R' f m h) : Ex S c Γ ss R' := fun m s Q E O G F N k => h m s Q E O G F N fun f h' tk' m' F' hr => k f h' tk' m' F' (hR f m' h' hr)
-- what is left of the pairs
noncomputable def ZipP (nw : Led) (zs : List Itm) : Prop := ∃ vs us ds, zs = zipItems vs us ∧ All2 (PairAt nw) vs ds ∧ All2 (VRel nw) us ds ∧ ∀ d ∈ ds, d.ok
inductive ZipAt (nw : Led) (a : Itm) (r : List Itm) : Prop where
  | mk (a1 : Addr) (v1 v : Value) (t1 : Tok) (d : D) (h1 : ∀ u h, a.Is u h → ∃ T, u = .ref T ∧ IsTup h T #[.ref a1, v]) (h2 : (a1, tup [.str d.sort t1, v1]) ∈ nw) (h3 : HRel v1 d) (h4 : VRel nw v d) (h5 : d.ok) (h6 : ZipP nw r)
theorem zip_inv {nw : Led} {a : Itm} {r : List Itm} (h : ZipP nw (a :: r)) : ZipAt nw a r := by
  obtain ⟨vs, us, ds, hx, hv, hu, hd⟩ := h
  cases hv with
  | nil => exact nomatch hx
  | @cons _ d _ _ hpa hv =>
    cases hu with
    | cons hva hu =>
      obtain ⟨rfl, rfl⟩ := List.cons.inj hx
      obtain ⟨a1, o1, rfl, hm, v1, t1, rfl, hr⟩ := hpa
      exact ⟨a1, v1, _, t1, d, fun u h ⟨T, t, e, hT⟩ => ⟨T, e, hT⟩, hm, hr, hva, hd d (.head _), _, _, _, rfl, hv, hu, fun d hd' => hd d (.tail _ hd')⟩
-- a loop over the pairs and the values that bear the same data
theorem Es.forPairs {xs ys : List Value} {ds : List D} {x y z : Str} {xp yp zp tp tp2 p1 p2 : Pos} {k k' : Nat} {Γ0 : Gam} (ok : Ok S c n) (hb : okN S (Str.ofString "zip") .globalImplicit = true) (hx : okN S x .local = true) (hy : okN S y .local = true) (hz : okN S z .local = true)
    (h : EvL (S.env c) c Γ [a, b] [.ex (.ref l), .ex (.ref l2)]) (hm1 : (l, lst xs n1) ∈ c.news) (hm2 : (l2, lst ys n2) ∈ c.news) (h1 : All2 (PairAt c.news) xs ds) (h2 : All2 (VRel c.news) ys ds) (h3 : ∀ d ∈ ds, d.ok) (hG : GSub Γ Γ0) (hf : Γ0.all (fun p => p.2.flat) = true)
    (turn : ∀ d v nw, d.ok → VRel nw v d → (∀ p ∈ c.news, p ∈ nw) → Ex S (c.led nw) ((z, .ex v) :: (y, .held d) :: (x, .str d.sort) :: Γ0) body (Nxt (c.led nw) Γ0))
    (hs : ∀ x, foldedSetIterable (.Call (.Name (Str.ofString "zip") p1) [a, b] [] p2) (S.env c) x = pure x := by intro _; rfl) :
    Es S c Γ (.For (.Tuple [.Tuple [.Name x xp, .Name y yp] k tp, .Name z zp] k' tp2) (.Call (.Name (Str.ofString "zip") p1) [a, b] [] p2) body [] pos) (Nxt c Γ0) := fun m s Q E O G F N kk =>
  Es.forZip (σ := Unit) (Γs := fun _ => Γ0) (fun zs _ => ZipP c.news zs) ok hb h hm1 hm2 () ⟨xs, ys, ds, rfl, h1, h2, h3⟩ hG (fun _ => hf) hs (fun a r _ nw hP hsub => match zip_inv hP with
    | ⟨a1, v1, v, t1, d, g1, g2, g3, g4, g5, g6⟩ => ⟨_, Am.pair2 (ok.led nw) hx hy hz (hsub _ g2) g1 ⟨t1, rfl⟩ g3 (ra := .str d.sort) (rb := .held d) (r := .ex _) rfl, (turn d v nw g5 (g4.mono hsub) hsub).weaken fun f m h ⟨e, N, G⟩ => ⟨e, N, (), g6, G⟩⟩) m s Q E O G F N fun f h' tk' m' F' ⟨e, N', _, _, G'⟩ => kk f h' tk' m' F' ⟨e, N', G'⟩
end
theorem gen_ex {n : Nat} {S : Fs} {c₀ : Act} {body : List Stmt} {r : Rv} {P : Act → Prop} (ok : Ok S c₀ n) (h : P c₀) (k : ∀ c, Ok S c n → P c → Ex S (c.led c.news) [] body (Ret c r)) : Ex S c₀ [] body (Ret c₀ r) := k c₀ ok h
set_option tactic.hygienic true in
theorem law_holds : PySem.Challenge.rw_nt0637_01.Holds := by
  w_on
  o_law
  o_head (kHook KF KA KA_eq)
  case hw => w_witness2
  w_strict k_go0
  all_goals (try k_fold)
  rename_i w s₀ s₁ mg mb G Y fa o pm doc ho hgens KX X V GL T B TE TW w10 w9 M w8 w7 hcd ns hs hlay0 hL1 hr1 hl2 w5 w4 l vs w1 hL ra w1' r0 hI hr hcond1 hcond K0 hD h₁ tk₁ F cell hcell N0 X0
  refine (?Hbody : Ex ⟨_, _, fa, .ref w8, _⟩ ⟨w, ExcName.means s₀.heap, mg, mb, _, [], callerA, s₁.heap, s₁.heap, s₁.heap.objs.size, [(s₁.heap.objs.size + 1, cell)]⟩ [] _ (Ret _ (.bool true))) _ _ _ _ (by passes_own) (fun _ _ e => by cases e) F N0 ?kfin
  case kfin =>
    intro f h' tk' m' F' hr
    obtain ⟨v, rfl, N', rfl⟩ := hr
    exact law_good F' hgens
  refine gen_ex (n := 9) (P := fun c => (s₁.heap.objs.size + 1, cell) ∈ c.news ∧ (Rv.scr ns).ok c (.ref l)) ⟨K0, KX, T, rfl, rfl, rfl, ?_, ?_⟩ ⟨.head _, l, vs, rfl, hL, hI, by (first | lia | omega)⟩ ?_
  · show callerA.depth + 1 + 9 < recursionLimit; decide
  · show callerA.units + 3 + 20 * 9 < cLine; decide
  clear F N0 X0 K0 KX T GL TE TW
  rintro c ok ⟨hm0, hs⟩
  have hn : ns.length ≤ 63 := by (first | lia | omega)
  have sc : ∀ {nw : Led} {Γ : Gam} {pos : Pos}, (s₁.heap.objs.size + 1, cell) ∈ nw → Ev (Fs.env _ (c.led nw)) (c.led nw) Γ (.Name (Str.ofString "script") pos) (.scr ns) := fun hm => Ev.cell (ok.led _) rfl rfl hm hcell hs
  have ce : ∀ {nw : Led} {Γ : Gam} {p1 p2 p3 p4 : Pos} {u : Nat} {k : Int}, (s₁.heap.objs.size + 1, cell) ∈ nw → 0 ≤ k → k ≤ 100 → Ev (Fs.env _ (c.led nw)) (c.led nw) Γ (.Call (.Name (Str.ofString "_law_cell") p1) [.Name (Str.ofString "script") p2, .Constant (.int k) u p3] [] p4) (.int (cellZ ns k)) := fun hm h0 h1 => Ev.call (ok.led _) rfl (g_cell _) (k_cell _) (law_cell_r hn h0 h1) (by decide) (.cons (sc hm) (.cons Ev.cint .nil))
  refine Ex.seq (Es.assign (ok.led _) rfl (Ev.bin Ev.cint (Ev.bin (ce hm0 (by decide) (by decide)) Ev.cint (Bn.mod (by decide))) Bn.add)) ?_
  obtain ⟨b, hb1, hb2, eb⟩ : ∃ b : Int, 2 ≤ b ∧ b ≤ 71 ∧ 2 + (cellZ ns 0).fmod 70 = b := ⟨_, by rw [Int.fmod_eq_emod_of_nonneg _ (by decide)]; (first | lia | omega), by rw [Int.fmod_eq_emod_of_nonneg _ (by decide)]; (first | lia | omega), rfl⟩
  rw [eb]
  refine Ex.assignN2 (ok.led _) rfl (EvN.limits ((ok.led _).mono (by decide)) rfl (Ev.loc (ok.led _) rfl)) (fun _ => rfl) (fun v nw h => h.1) ?_
  rintro lim nw1 ⟨hsub1, hlim⟩
  obtain ⟨la, rfl⟩ : ∃ a, lim = .ref a := by cases hlim; exact ⟨_, rfl⟩
  have hc1 := hsub1 _ hm0
  obtain ⟨n, hn2, hn8, en⟩ : ∃ n : Nat, 2 ≤ n ∧ n ≤ 8 ∧ 2 + (cellZ ns 0).fmod 7 = (n : Int) := ⟨(2 + (cellZ ns 0).fmod 7).toNat, by rw [Int.fmod_eq_emod_of_nonneg _ (by decide)]; (first | lia | omega), by rw [Int.fmod_eq_emod_of_nonneg _ (by decide)]; (first | lia | omega), by rw [Int.fmod_eq_emod_of_nonneg _ (by decide)]; (first | lia | omega)⟩
  refine Ex.compR (K := n) (fun q ys nw => All2 (PairAt nw) ys (drawL ns q) ∧ ∀ p ∈ nw1, p ∈ nw) (ok.led nw1) (EvRg.one (ok.led nw1) rfl (.cons (Ev.int_of en (Ev.bin Ev.cint (Ev.bin (ce hc1 (by decide) (by decide)) Ev.cint (Bn.mod (by decide))) Bn.add)) .nil)) (by with_unfolding_all rfl) (by with_unfolding_all rfl) (by decide) rfl (by decide) rfl rfl (fun _ => rfl) (small_up (by (first | lia | omega))) (size_up n) (by (first | lia | omega)) ⟨.nil, fun _ h => h⟩ ?_ (fun ys nw h => h.2) ?_
  · rintro q ys nw hq ⟨hz, hsub⟩ I C D oI oC m₂ t hC hx2 off
    rw [Int.zero_add] at hx2
    refine EvN.monoV (EvN.callE (ok.led _) (Ev.cglob (ok.led _) (g_drawn _) rfl rfl rfl) (k_drawn _) (law_drawn_r (k := 2 * (q : Int)) hn (by (first | lia | omega)) (by (first | lia | omega))) (by decide) (.cons (Ev.ccell (r := .scr ns) (.tail _ (.tail _ (.tail _ (hsub _ hc1)))) hcell hs rfl rfl rfl rfl) (.cons (Ev.bin Ev.cint (Ev.own (r := .int (q : Int)) (.tail _ (.head _)) hC hx2 ⟨t, rfl⟩ rfl rfl rfl) (Bn.mul (mul_small (by (first | lia | omega))))) .nil))) ?_
    rintro v nw' ⟨a, o, rfl, rfl, hl, hp⟩
    exact ⟨[(a, o)] ++ nw, sub3_of, off3_of (fun q hq p hp => by rw [List.mem_singleton.mp hp]; exact hl q hq) off, All2.snoc ⟨a, o, rfl, .head _, hp⟩ (hz.mono fun v d h => h.mono fun p hp => .tail _ hp), fun p hp => .tail _ (hsub p hp)⟩
  rintro ys nw2 D1 ⟨hz, hsub2⟩
  have hlen : ys.length = n := by rw [hz.length, drawL_len]
  have hk0 : 0 ≤ (cellZ ns 1).fmod (ys.length : Int) := Int.fmod_nonneg_of_pos _ (by (first | lia | omega))
  have hk1 : (cellZ ns 1).fmod (ys.length : Int) < ys.length := Int.fmod_lt_of_pos _ (by (first | lia | omega))
  obtain ⟨v9, hv9⟩ : ∃ v, ys[((cellZ ns 1).fmod (ys.length : Int)).toNat]? = some v := ⟨_, List.getElem?_eq_getElem (by (first | lia | omega))⟩
  obtain ⟨d9, hd9, hp9⟩ := hz.get hv9
  have hc2 : (s₁.heap.objs.size + 1, cell) ∈ (D1, LCg.lst ys) :: nw2 := .tail _ (hsub2 _ hc1)
  refine Ex.assignN2 (ok.led ((D1, LCg.lst ys) :: nw2)) rfl (EvN.addOne (vs := ys) (v := v9) (Ev.loc (ok.led ((D1, LCg.lst ys) :: nw2)) rfl) (.head _) (Ev.sub (Ev.loc (ok.led ((D1, LCg.lst ys) :: nw2)) rfl) (Ev.bin (ce hc2 (by decide) (by decide)) (Ev.lenL (ok.led ((D1, LCg.lst ys) :: nw2)) rfl (Ev.loc (ok.led ((D1, LCg.lst ys) :: nw2)) rfl) (.head _) (by (first | lia | omega))) (Bn.mod (by (first | lia | omega)))) (Bn.itemL (.head _) hk0 (by (first | lia | omega)) hv9 (fun _ _ => rfl))) (by (first | lia | omega)) (fun _ => rfl)) (fun _ => rfl) (fun v nw ⟨D, _, e, _⟩ p hp => e ▸ .tail _ hp) ?_
  rintro _ nw3 ⟨D2, rfl, rfl, hl2'⟩
  have hz2 : All2 (PairAt ((D2, lst (ys ++ [v9]) 0) :: (D1, LCg.lst ys) :: nw2)) (ys ++ [v9]) (drawL ns n ++ [d9]) := (hz.snoc hp9).mono fun v d h => h.mono fun p hp => .tail _ (.tail _ hp)
  have hok2 : ∀ d ∈ drawL ns n ++ [d9], d.ok := fun d hd => by
    rcases List.mem_append.mp hd with hd | hd
    · exact drawL_ok ns n d hd
    · rw [List.mem_singleton.mp hd]; exact drawL_ok ns n d9 (List.mem_of_getElem? hd9)
  have hlen2 : (ys ++ [v9]).length = n + 1 := by rw [List.length_append, hlen]; rfl
  have hc3 : (s₁.heap.objs.size + 1, cell) ∈ (D2, lst (ys ++ [v9]) 0) :: (D1, LCg.lst ys) :: nw2 := .tail _ hc2
  have hN3 : ∀ p ∈ c.news, p ∈ (D2, lst (ys ++ [v9]) 0) :: (D1, LCg.lst ys) :: nw2 := fun p hp => .tail _ (.tail _ (hsub2 p (hsub1 p hp)))
  have hlim3 : LimRel ((D2, lst (ys ++ [v9]) 0) :: (D1, LCg.lst ys) :: nw2) (.ref la) b := hlim.mono fun p hp => .tail _ (.tail _ (hsub2 p hp))
  clear hv9 hd9 hp9 hz hsub2 hl2' hk0 hk1 hlim hc1 hc2
  generalize hnw : (D2, lst (ys ++ [v9]) 0) :: (D1, LCg.lst ys) :: nw2 = nw3 at hz2 hc3 hlim3 hN3 ⊢
  generalize ys ++ [v9] = ys2 at hz2 hlen2 hnw ⊢
  generalize drawL ns n ++ [d9] = ds at hz2 hok2
  have hD2 : (D2, lst ys2 0) ∈ nw3 := hnw ▸ .head _
  refine Ex.compP (cap := 0) (us := ys2) (l := D2) (fun i us nw4 => All2 (VRel nw4) us (ds.take i) ∧ ∀ p ∈ nw3, p ∈ nw4) (ok.led nw3) (Ev.loc (ok.led nw3) rfl) hD2 (by (first | lia | omega)) (by with_unfolding_all rfl) (by with_unfolding_all rfl) (by decide) rfl (by decide) rfl rfl (by decide) rfl (fun _ => rfl) ⟨.nil, fun _ h => h⟩ ?_ (fun us nw h => h.2) ?_
  · rintro i us nw4 v hv ⟨hu, hsub4⟩
    obtain ⟨d, hd, a, o, rfl, hm, vv, t9, rfl, hr⟩ := hz2.get hv
    refine ⟨a, _, _, rfl, hsub4 _ hm, ?_⟩
    intro I C D oI oC m₂ hC hx hx2 off
    refine EvN.monoV (EvN.callE (ok.led _) (Ev.cglob (ok.led _) (g_made _) rfl rfl rfl) (k_made _) (law_made_r (d := d)) (by decide) (.cons (Ev.own (r := .str d.sort) (.tail _ (.head _)) hC hx ⟨t9, rfl⟩ rfl rfl rfl) (.cons (Ev.own (r := .held d) (.tail _ (.head _)) hC hx2 hr rfl rfl rfl) .nil))) ?_
    rintro v nw' ⟨tl, rfl, ho, hv⟩
    refine ⟨tl ++ nw4, sub3_of, off3_of ho off, List.mem_append_right _ (hsub4 _ hD2), ?_, fun p hp => List.mem_append_right _ (hsub4 p hp)⟩
    rw [show ds.take (i + 1) = ds.take i ++ [d] from by rw [List.take_add_one, hd]; rfl]
    exact (hu.mono fun v d h => h.mono fun p hp => List.mem_append_right _ hp).snoc (hv.mono fun p hp => List.mem_append_left _ hp)
  rintro us nw4 DV ⟨hu, hsub4⟩
  rw [hz2.length, List.take_length] at hu
  have hs5 : ∀ p ∈ nw3, p ∈ (DV, LCg.lst us) :: nw4 := fun p hp => .tail _ (hsub4 p hp)
  have hlim5 := hlim3.mono hs5
  have hc5 := hs5 _ hc3
  have hN5 : ∀ p ∈ c.news, p ∈ (DV, LCg.lst us) :: nw4 := fun p hp => hs5 p (hN3 p hp)
  have hD5 := hs5 _ hD2
  have hz5 := hz2.mono fun v d h => PairAt.mono hs5 h
  have hu5 : All2 (VRel ((DV, LCg.lst us) :: nw4)) us ds := hu.mono fun v d h => h.mono fun p hp => .tail _ hp
  have hV5 : (DV, lst us us.length) ∈ (DV, LCg.lst us) :: nw4 := .head _
  clear hs5 hlim3 hN3 hc3 hD2 hz2 hu hsub4 hnw
  generalize hnw : (DV, LCg.lst us) :: nw4 = nw5 at hlim5 hc5 hN5 hD5 hz5 hu5 hV5 ⊢
  refine Ex.seq (Γ' := [(Str.ofString "width", .int b), (Str.ofString "limits", .ex (.ref la)), (Str.ofString "drawn", .ex (.ref D2)), (Str.ofString "values", .ex (.ref DV))]) (Es.forPairs (ok.led nw5) rfl rfl rfl rfl (.cons (Ev.loc (ok.led nw5) rfl) (.cons (Ev.loc (ok.led nw5) rfl) .nil)) hD5 hV5 hz5 hu5 hok2 (.cons rfl (.cons rfl (.cons rfl (.cons rfl .nil)))) rfl fun d1 v1 nw hd1 hv1 hsub => ?_) ?_
  · have okn := ok.led nw
    refine Ex.ifF (Tv.notT (Tv.plain (Ev.call okn rfl (g_one _) (k_one _) (law_one_right_r hd1 hb1 hb2) (by decide) (.cons (Ev.loc okn rfl) (.cons (Ev.loc okn rfl) (.cons (Ev.to (r := .ex v1) (r' := .dat d1) (Ev.loc okn rfl) fun v hv => hv ▸ hv1) (.cons (Ev.to (r := .ex (.ref la)) (r' := .lim b) (Ev.loc okn rfl) fun v hv => hv ▸ hlim5.mono hsub) .nil))))))) ?_
    refine Ex.seq (Es.forPairs (Γ0 := [(Str.ofString "width", .int b), (Str.ofString "limits", .ex (.ref la)), (Str.ofString "drawn", .ex (.ref D2)), (Str.ofString "values", .ex (.ref DV)), (Str.ofString "sort", .str d1.sort), (Str.ofString "held", .held d1), (Str.ofString "value", .ex v1)]) okn rfl rfl rfl rfl (.cons (Ev.loc okn rfl) (.cons (Ev.loc okn rfl) .nil)) (hsub _ hD5) (hsub _ hV5) (hz5.mono fun v d h => PairAt.mono hsub h) (hu5.mono fun v d h => VRel.mono h hsub) hok2 (.cons rfl (.cons rfl (.cons rfl (.cons rfl (.cons rfl (.cons rfl (.cons rfl .nil))))))) rfl fun d2 v2 nw6 _ hv2 hs6 => ?_) (Ex.nil fun m h G N => ⟨rfl, N, G.sub (.cons rfl (.cons rfl (.cons rfl (.cons rfl .nil))))⟩)
    have ok6 := ok.led nw6
    refine Ex.seq (Es.assign ok6 rfl (Ev.call ok6 rfl (g_raw_equal _) (k_raw_equal _) raw_equal_r (by decide) (.cons (Ev.to (r := .ex v1) (r' := .dat d1) (Ev.loc ok6 rfl) fun v hv => hv ▸ VRel.mono hv1 hs6) (.cons (Ev.to (r := .ex v2) (r' := .dat d2) (Ev.loc ok6 rfl) fun v hv => hv ▸ hv2) .nil)))) ?_
    refine Ex.ifF (Tv.or2F (Tv.notT (Tv.plain (Ev.isi ok6 rfl (.cons (Ev.to (r := .ex (.bool _)) (r' := .dat (.bool _)) (Ev.loc ok6 rfl) fun v hv => hv) (.cons (Ev.n_bool ok6 rfl) .nil)) .bool))) (Tv.of (bne_same _) (Tv.cmp (Ev.loc ok6 rfl) (Ev.sameD (Ev.loc ok6 rfl) (Ev.loc ok6 rfl) (Ev.loc ok6 rfl) (Ev.loc ok6 rfl)) Bn.nebool))) ?_
    exact Ex.nil fun m h G N => ⟨rfl, N, G.sub (.cons rfl (.cons rfl (.cons rfl (.cons rfl (.cons rfl (.cons rfl (.cons rfl .nil)))))))⟩
  have gr : ∀ {xp yp pos : Pos}, IsMeth (Fs.env _ (c.led nw5)) (Str.ofString "limits") xp (Str.ofString "greatest") yp [] pos → Ev (Fs.env _ (c.led nw5)) (c.led nw5) [(Str.ofString "width", .int b), (Str.ofString "limits", .ex (.ref la)), (Str.ofString "drawn", .ex (.ref D2)), (Str.ofString "values", .ex (.ref DV))] (.Call (.Attribute (.Name (Str.ofString "limits") xp) (Str.ofString "greatest") yp) [] [] pos) (.int (2 ^ (b - 1).toNat - 1)) := fun hM => Ev.greatest (ok.led nw5) (by decide) hb1 hb2 (Ev.loc (ok.led nw5) rfl) hlim5 hM
  have le : ∀ {xp yp pos : Pos}, IsMeth (Fs.env _ (c.led nw5)) (Str.ofString "limits") xp (Str.ofString "least") yp [] pos → Ev (Fs.env _ (c.led nw5)) (c.led nw5) [(Str.ofString "width", .int b), (Str.ofString "limits", .ex (.ref la)), (Str.ofString "drawn", .ex (.ref D2)), (Str.ofString "values", .ex (.ref DV))] (.Call (.Attribute (.Name (Str.ofString "limits") xp) (Str.ofString "least") yp) [] [] pos) (.int (-(2 ^ (b - 1).toNat))) := fun hM => Ev.least (ok.led nw5) (by decide) hb1 hb2 (Ev.loc (ok.led nw5) rfl) hlim5 hM
  refine Ex.ifF (Tv.or2F (Tv.neS (Ev.int_of (wrap_greatest hb1) (Ev.call (ok.led nw5) rfl (g_wrap _) (k_wrap _) (wrap_r hb1 hb2) (by decide) (.cons (gr ⟨_, rfl⟩) (.cons (Ev.loc (ok.led nw5) rfl) .nil)))) (gr ⟨_, rfl⟩)) (Tv.neS (Ev.int_of (wrap_over hb1) (Ev.call (ok.led nw5) rfl (g_wrap _) (k_wrap _) (wrap_r hb1 hb2) (by decide) (.cons (Ev.bin (gr ⟨_, rfl⟩) Ev.cint Bn.add) (.cons (Ev.loc (ok.led nw5) rfl) .nil)))) (le ⟨_, rfl⟩))) ?_
  refine Ex.ifF (Tv.or2F (Tv.neS (Ev.int_of (wrap_under hb1) (Ev.call (ok.led nw5) rfl (g_wrap _) (k_wrap _) (wrap_r hb1 hb2) (by decide) (.cons (Ev.bin (le ⟨_, rfl⟩) Ev.cint Bn.sub) (.cons (Ev.loc (ok.led nw5) rfl) .nil)))) (gr ⟨_, rfl⟩)) (Tv.neS (Ev.int_of (whole_of hb1) (Ev.bin (Ev.bin (gr ⟨_, rfl⟩) (le ⟨_, rfl⟩) Bn.sub) Ev.cint Bn.add)) (Ev.int_of (Int.one_mul _) (Ev.bin Ev.cint (Ev.loc (ok.led nw5) rfl) (Bn.shl (by (first | lia | omega)) (shl1 (by (first | lia | omega)) (by (first | lia | omega)))))))) ?_
  refine Ex.ifF (Tv.or2F (Tv.neB (Ev.call (ok.led nw5) rfl (g_ntx _) (k_ntx _) (number_text_r (least_small hb1 hb2)) (by decide) (.cons (le ⟨_, rfl⟩) .nil)) (Ev.call (ok.led nw5) rfl (g_ldig _) (k_ldig _) (law_digits_r (least_small hb1 hb2)) (by decide) (.cons (le ⟨_, rfl⟩) .nil))) (Tv.neB (Ev.call (ok.led nw5) rfl (g_tname _) (k_tname _) (type_name_r (k := 4) (by decide) (by decide)) (by decide) (.cons (Ev.type_of (d := .text []) (ok.led nw5) rfl (by decide) (Ev.to Ev.cbyt fun v hv => hv)) .nil)) Ev.cbyt)) ?_
  clear gr le
  refine Ex.compR (K := 10) (fun q ys nw => nw5 = nw ∧ BytesAre ys (namesF q)) (ok.led nw5) (EvRg.two (ok.led nw5) rfl (.cons (Ev.neg Ev.cint) (.cons Ev.cint .nil))) (by with_unfolding_all rfl) (by with_unfolding_all rfl) (by decide) rfl (by decide) rfl rfl (fun _ => rfl) (by decide) (by decide) (by decide) ⟨rfl, .nil⟩ ?_ (fun ys nw h p hp => h.1 ▸ hp) ?_
  · rintro q ys nw hq ⟨rfl, hz⟩ I C D oI oC m₂ t hC hx2 off
    refine EvN.ofV (r := .byt (tagName (-1 + (q : Int)))) (Ev.callE (ok.led _) (Ev.cglob (ok.led _) (g_tname _) rfl rfl rfl) (k_tname _) (type_name_r (k := -1 + (q : Int)) (by (first | lia | omega)) (by (first | lia | omega))) (by decide) (.cons (Ev.own (r := .int (-1 + (q : Int))) (.tail _ (.head _)) hC hx2 ⟨t, rfl⟩ rfl rfl rfl) .nil)) ?_
    intro v hv
    exact CEnd.same off ⟨rfl, hz.snoc hv⟩
  rintro yn nw D3 ⟨rfl, hz⟩
  rw [namesF_ten] at hz
  refine Ex.assignN2 (ok.led ((D3, LCg.lst yn) :: nw5)) rfl (EvN.list (xs := [[116, 97, 98, 108, 101], [102, 117, 110, 99, 116, 105, 111, 110], [117, 115, 101, 114, 100, 97, 116, 97], [116, 104, 114, 101, 97, 100]]) (.cons Ev.cbyt (.cons Ev.cbyt (.cons Ev.cbyt (.cons Ev.cbyt .nil)))) (by decide)) (fun _ => rfl) (fun v nw ⟨_, _, _, e, _⟩ p hp => e ▸ .tail _ hp) ?_
  rintro _ nw ⟨l7, vs7, rfl, rfl, hl7, hv7⟩
  have ok7 := ok.led ((l7, lst vs7 0) :: (D3, LCg.lst yn) :: nw5)
  refine Ex.ifF (Tv.neSum (xs := [[110, 111, 32, 118, 97, 108, 117, 101], [110, 105, 108], [98, 111, 111, 108, 101, 97, 110], [117, 115, 101, 114, 100, 97, 116, 97], [110, 117, 109, 98, 101, 114], [115, 116, 114, 105, 110, 103]]) (by have := ok.hu; show c.A.units < cLine; (first | lia | omega)) (Ev.loc ok7 rfl) (.tail _ (.head _)) hz (.cons Ev.cbyt (.cons Ev.cbyt (.cons Ev.cbyt (.cons Ev.cbyt (.cons Ev.cbyt (.cons Ev.cbyt .nil)))))) (fun nw => Ev.loc (ok.led nw) rfl) (.head _) (AllOk.texts hv7) (by decide) (by decide)) ?_
  have hc7 : (s₁.heap.objs.size + 1, cell) ∈ (l7, lst vs7 0) :: (D3, LCg.lst yn) :: nw5 := .tail _ (.tail _ hc5)
  exact Ex.retW (c := c) (nw := (l7, lst vs7 0) :: (D3, LCg.lst yn) :: nw5) (Ev.and2 (t := true) (t' := true) (Ev.call ok7 rfl (g_txr _) (k_txr _) (law_text_right_r hn (by decide) (by decide)) (by decide) (.cons (sc hc7) (.cons Ev.cint .nil))) fun _ => Ev.call ok7 rfl (g_txr _) (k_txr _) (law_text_right_r hn (by decide) (by decide)) (by decide) (.cons (sc hc7) (.cons Ev.cint .nil))) (fun p hp => .tail _ (.tail _ (hN5 p hp))) rfl
end Mine
set_option maxRecDepth 100000 in
set_option maxHeartbeats 8000000 in
theorem PySem.Challenge.cw_nt0637_01_holds : PySem.Challenge.rw_nt0637_01.Holds :=
  Mine.law_holds
