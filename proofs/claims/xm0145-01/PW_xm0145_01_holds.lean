import PyProof.Rows.All
import Wide.All
import OpenK.AllK
import Wide.FinOn
import Lean
import PySem.Challenge.RW_xm0145_01
set_option Elab.async false
set_option linter.all false

section
namespace Mine
open PySem PySem.W PySem.Calls PyProof.Rows
/-- the text's statements that stay in view: all but the module names -/
noncomputable def keepD : List Nat := [1, 3, 4, 5, 7, 8, 10, 11, 12, 13, 14, 15, 16, 17, 18, 19, 20, 21, 22, 23, 25, 26, 27, 29, 30, 31, 32, 33, 35, 36, 37, 38, 40, 41, 42, 43, 44, 45, 46]
noncomputable def vw : Program := view PySem.Challenge.pw_xm0145_01 keepD
/-- a def of the text as the object that it becomes -/
noncomputable def fnO (i : Nat) (pm : Value) (cd : Addr) : Obj := match PySem.Challenge.pw_xm0145_01.main.body[i]? with
  | some (.FunctionDef name params body _ _ _ scope _ _ _) => ⟨.type "function", none, .func ⟨name, name, params, .stmts body, scope, 3, [], .none, .none, .none, pm, none, .ref cd, .none, 0⟩, #[]⟩
  | _ => default
noncomputable def sV (s : Str) (t : Nat) : Value := .str s t
noncomputable def iV (n : Int) : Value := .int n 0
noncomputable def cdO (nm : Str) (t l a k : Nat) (r1 r2 : Addr) (o1 o2 : Value) (r3 : Addr) (u v : Nat) : Obj :=
  ⟨.type "code", none, .fields #[sV nm t, sV nm (t + 1), sV "/claim/cut.py" (t + 2), iV l, iV a, iV 0, iV 0, iV k, .ref r1, .bool true, iV 181, .ref r2, .none, o1, o2, .ref r3, iV u, iV l, sV "/claim/cut.py" v], #[]⟩
noncomputable def eD (P : Params) (s : Str) (t : Nat) (v : Value) : DictEntry := { hash := PyData.keyHash P s, key := .str s t, val := v }
noncomputable def KD (P : Params) : Frag :=
  
(nat_lit 3, ⟨.type "dict", none, .dict (eD P "__name__" 165 (Value.str "law_xm0145_01" 503) :: eD P "__doc__" 166 (Value.none) :: eD P "__package__" 167 (Value.none) :: eD P "__loader__" 168 (Value.builtin "__main__.__loader__#opaque") :: eD P "__spec__" 169 (Value.none) :: eD P "__annotations__" 170 (Value.ref 6) :: eD P "__builtins__" 171 (Value.ref 4) :: eD P "__file__" 173 (Value.str "/claim/cut.py" 172) :: eD P "__cached__" 174 (Value.none) :: eD P "CasFail" 219 (Value.ref 31) :: eD P "pivot_row" 230 (Value.ref 41) :: eD P "bareiss_step" 243 (Value.ref 48) :: eD P "determinant" 249 (Value.ref 53) :: eD P "gcd" 259 (Value.ref 60) :: eD P "gcd_all" 268 (Value.ref 67) :: eD P "ztrim" 278 (Value.ref 74) :: eD P "zdegree" 285 (Value.ref 81) :: eD P "zlead" 292 (Value.ref 88) :: eD P "zadd" 298 (Value.ref 93) :: eD P "zneg" 304 (Value.ref 98) :: eD P "zsub" 312 (Value.ref 105) :: eD P "zscale" 318 (Value.ref 110) :: eD P "zraise" 326 (Value.ref 117) :: eD P "zmul" 339 (Value.ref 124) :: eD P "zpower" 349 (Value.ref 131) :: eD P "zcontent" 356 (Value.ref 138) :: eD P "zdivided" 362 (Value.ref 143) :: eD P "zprimitive" 370 (Value.ref 150) :: eD P "zderive" 376 (Value.ref 155) :: eD P "check_bottom" 385 (Value.ref 162) :: eD P "pseudo" 401 (Value.ref 169) :: eD P "zpseudo_rest" 409 (Value.ref 176) :: eD P "divided" 417 (Value.ref 181) :: eD P "full_rest" 423 (Value.ref 186) :: eD P "row_resultant" 437 (Value.ref 193) :: eD P "resultant" 449 (Value.ref 200) :: eD P "discriminant" 458 (Value.ref 207) :: eD P "next_height" 469 (Value.ref 214) :: eD P "subresultants" 482 (Value.ref 221) :: eD P "zgcd" 493 (Value.ref 228) :: eD P "zgcd_all" 502 (Value.ref 235) :: eD P "_law_draw" 513 (Value.ref 242) :: eD P "_law_moved" 526 (Value.ref 249) :: eD P "_law_beside" 534 (Value.ref 256) :: eD P "_law_slopes" 546 (Value.ref 263) :: eD P "_law_numbers" 559 (Value.ref 270) :: eD P "_law_alone_right" 575 (Value.ref 277) :: eD P "law" 581 (Value.ref 282) :: []).toArray 48, #[]⟩) ::
  (nat_lit 40, cdO "pivot_row" 222 9 2 3 35 36 (.ref 37) (.ref 38) 39 228 229) ::
  (nat_lit 41, fnO 3 (.str "cas.bareiss" 220) 40) ::
  (nat_lit 47, cdO "bareiss_step" 231 14 3 3 42 43 (.ref 44) (.ref 45) 46 241 242) ::
  (nat_lit 48, fnO 4 (.str "cas.bareiss" 220) 47) ::
  (nat_lit 52, cdO "determinant" 244 21 1 3 49 50 .none .none 51 247 248) ::
  (nat_lit 53, fnO 5 (.str "cas.bareiss" 220) 52) ::
  (nat_lit 59, cdO "gcd" 252 36 2 3 54 55 (.ref 56) (.ref 57) 58 257 258) ::
  (nat_lit 60, fnO 7 (.str "cas.ints" 250) 59) ::
  (nat_lit 66, cdO "gcd_all" 260 41 1 3 61 62 (.ref 63) (.ref 64) 65 266 267) ::
  (nat_lit 67, fnO 8 (.str "cas.ints" 250) 66) ::
  (nat_lit 73, cdO "ztrim" 271 47 1 3 68 69 (.ref 70) (.ref 71) 72 276 277) ::
  (nat_lit 74, fnO 10 (.str "cas.zpoly" 269) 73) ::
  (nat_lit 80, cdO "zdegree" 279 52 1 3 75 76 (.ref 77) (.ref 78) 79 283 284) ::
  (nat_lit 81, fnO 11 (.str "cas.zpoly" 269) 80) ::
  (nat_lit 87, cdO "zlead" 286 54 1 3 82 83 (.ref 84) (.ref 85) 86 290 291) ::
  (nat_lit 88, fnO 12 (.str "cas.zpoly" 269) 87) ::
  (nat_lit 92, cdO "zadd" 293 56 2 3 89 90 .none .none 91 296 297) ::
  (nat_lit 93, fnO 13 (.str "cas.zpoly" 269) 92) ::
  (nat_lit 97, cdO "zneg" 299 59 1 3 94 95 .none .none 96 302 303) ::
  (nat_lit 98, fnO 14 (.str "cas.zpoly" 269) 97) ::
  (nat_lit 104, cdO "zsub" 305 61 2 3 99 100 (.ref 101) (.ref 102) 103 310 311) ::
  (nat_lit 105, fnO 15 (.str "cas.zpoly" 269) 104) ::
  (nat_lit 109, cdO "zscale" 313 63 2 3 106 107 .none .none 108 316 317) ::
  (nat_lit 110, fnO 16 (.str "cas.zpoly" 269) 109) ::
  (nat_lit 116, cdO "zraise" 319 65 2 3 111 112 (.ref 113) (.ref 114) 115 324 325) ::
  (nat_lit 117, fnO 17 (.str "cas.zpoly" 269) 116) ::
  (nat_lit 123, cdO "zmul" 327 67 2 3 118 119 (.ref 120) (.ref 121) 122 337 338) ::
  (nat_lit 124, fnO 18 (.str "cas.zpoly" 269) 123) ::
  (nat_lit 130, cdO "zpower" 340 76 2 3 125 126 (.ref 127) (.ref 128) 129 347 348) ::
  (nat_lit 131, fnO 19 (.str "cas.zpoly" 269) 130) ::
  (nat_lit 137, cdO "zcontent" 350 84 1 3 132 133 (.ref 134) (.ref 135) 136 354 355) ::
  (nat_lit 138, fnO 20 (.str "cas.zpoly" 269) 137) ::
  (nat_lit 142, cdO "zdivided" 357 86 2 3 139 140 .none .none 141 360 361) ::
  (nat_lit 143, fnO 21 (.str "cas.zpoly" 269) 142) ::
  (nat_lit 149, cdO "zprimitive" 363 88 1 3 144 145 (.ref 146) (.ref 147) 148 368 369) ::
  (nat_lit 150, fnO 22 (.str "cas.zpoly" 269) 149) ::
  (nat_lit 154, cdO "zderive" 371 93 1 3 151 152 .none .none 153 374 375) ::
  (nat_lit 155, fnO 23 (.str "cas.zpoly" 269) 154) ::
  (nat_lit 161, cdO "check_bottom" 379 96 1 3 156 157 (.ref 158) (.ref 159) 160 383 384) ::
  (nat_lit 162, fnO 25 (.str "cas.zdiv" 377) 161) ::
  (nat_lit 168, cdO "pseudo" 386 99 2 3 163 164 (.ref 165) (.ref 166) 167 399 400) ::
  (nat_lit 169, fnO 26 (.str "cas.zdiv" 377) 168) ::
  (nat_lit 175, cdO "zpseudo_rest" 402 110 2 3 170 171 (.ref 172) (.ref 173) 174 407 408) ::
  (nat_lit 176, fnO 27 (.str "cas.zdiv" 377) 175) ::
  (nat_lit 180, cdO "divided" 412 113 2 3 177 178 .none .none 179 415 416) ::
  (nat_lit 181, fnO 29 (.str "cas.resultants" 410) 180) ::
  (nat_lit 185, cdO "full_rest" 418 115 2 3 182 183 .none .none 184 421 422) ::
  (nat_lit 186, fnO 30 (.str "cas.resultants" 410) 185) ::
  (nat_lit 192, cdO "row_resultant" 424 119 3 3 187 188 (.ref 189) (.ref 190) 191 435 436) ::
  (nat_lit 193, fnO 31 (.str "cas.resultants" 410) 192) ::
  (nat_lit 199, cdO "resultant" 438 134 2 3 194 195 (.ref 196) (.ref 197) 198 447 448) ::
  (nat_lit 200, fnO 32 (.str "cas.resultants" 410) 199) ::
  (nat_lit 206, cdO "discriminant" 450 144 1 3 201 202 (.ref 203) (.ref 204) 205 456 457) ::
  (nat_lit 207, fnO 33 (.str "cas.resultants" 410) 206) ::
  (nat_lit 213, cdO "next_height" 461 151 3 3 208 209 (.ref 210) (.ref 211) 212 467 468) ::
  (nat_lit 214, fnO 35 (.str "cas.zgcd" 459) 213) ::
  (nat_lit 220, cdO "subresultants" 470 155 2 3 215 216 (.ref 217) (.ref 218) 219 480 481) ::
  (nat_lit 221, fnO 36 (.str "cas.zgcd" 459) 220) ::
  (nat_lit 227, cdO "zgcd" 483 169 2 3 222 223 (.ref 224) (.ref 225) 226 491 492) ::
  (nat_lit 228, fnO 37 (.str "cas.zgcd" 459) 227) ::
  (nat_lit 234, cdO "zgcd_all" 494 176 1 3 229 230 (.ref 231) (.ref 232) 233 500 501) ::
  (nat_lit 235, fnO 38 (.str "cas.zgcd" 459) 234) ::
  (nat_lit 241, cdO "_law_draw" 505 182 2 3 236 237 (.ref 238) (.ref 239) 240 511 512) ::
  (nat_lit 242, fnO 40 (.str "law_xm0145_01" 503) 241) ::
  (nat_lit 248, cdO "_law_moved" 514 188 3 3 243 244 (.ref 245) (.ref 246) 247 524 525) ::
  (nat_lit 249, fnO 41 (.str "law_xm0145_01" 503) 248) ::
  (nat_lit 255, cdO "_law_beside" 527 194 2 3 250 251 (.ref 252) (.ref 253) 254 532 533) ::
  (nat_lit 256, fnO 42 (.str "law_xm0145_01" 503) 255) ::
  (nat_lit 262, cdO "_law_slopes" 535 196 1 3 257 258 (.ref 259) (.ref 260) 261 544 545) ::
  (nat_lit 263, fnO 43 (.str "law_xm0145_01" 503) 262) ::
  (nat_lit 269, cdO "_law_numbers" 547 202 1 3 264 265 (.ref 266) (.ref 267) 268 557 558) ::
  (nat_lit 270, fnO 44 (.str "law_xm0145_01" 503) 269) ::
  (nat_lit 276, cdO "_law_alone_right" 560 206 3 3 271 272 (.ref 273) (.ref 274) 275 573 574) ::
  (nat_lit 277, fnO 45 (.str "law_xm0145_01" 503) 276) ::
  (nat_lit 281, cdO "law" 576 217 1 3 278 279 .none .none 280 579 580) ::
  (nat_lit 282, fnO 46 (.str "law_xm0145_01" 503) 281) :: []
noncomputable def asD : List Addr := [3, 40, 41, 47, 48, 52, 53, 59, 60, 66, 67, 73, 74, 80, 81, 87, 88, 92, 93, 97, 98, 104, 105, 109, 110, 116, 117, 123, 124, 130, 131, 137, 138, 142, 143, 149, 150, 154, 155, 161, 162, 168, 169, 175, 176, 180, 181, 185, 186, 192, 193, 199, 200, 206, 207, 213, 214, 220, 221, 227, 228, 234, 235, 241, 242, 248, 249, 255, 256, 262, 263, 269, 270, 276, 277, 281, 282]
theorem as_KD : ∀ P, asD = (KD P).map (·.1) := fun _ => by kernel_rfl
noncomputable def hkD : Hook := kHook KD asD as_KD
noncomputable def xtD (s : Shared) : Bool := xlAt vw [] s && recOk (RowW.records PySem.Challenge.rw_xm0145_01.row.toRowW) s
theorem run0 (w : World) (os : OsState) : (topFrom treeTable PySem.Challenge.pw_xm0145_01 w 3062 ⟨boot_heap w.params, Array.mk [], boot_drawn, boot_toks, os⟩).map (fun s => (openSeen vw [] (importedModules PySem.Challenge.pw_xm0145_01.main.body) xtD true s, Hook.obs hkD s)) = some (openGood vw [], Hook.val hkD w) := by
  kernel_rfl
end Mine
end

section
namespace Mine
open PySem PySem.W PySem.Calls PyProof.Rows
set_option maxRecDepth 100000
set_option maxHeartbeats 4000000
theorem left0 : LeftO PySem.Challenge.pw_xm0145_01 vw [] xtD (Hook.obs hkD) (Hook.val hkD) 3062 := by
  intro w
  have b := boot_open (p := PySem.Challenge.pw_xm0145_01) (N := 3062) (by kernel_rfl) (by decide) (fun s => by kernel_rfl) w
  obtain ⟨s, hs, hv⟩ := Option.map_eq_some_iff.mp b
  unfold openEnds
  rw [hs]
  obtain ⟨h, g, d, t, os⟩ := s
  simp only [Prod.mk.injEq] at hv
  obtain ⟨rfl, rfl, rfl, rfl⟩ := hv
  exact run0 w os
theorem said : PySem.Challenge.rw_xm0145_01.wellSaid = true := by
  kernel_rfl
noncomputable def dD : DefRec := match (PySem.Challenge.pw_xm0145_01.main.body[46]? : Option Stmt) with
  | some (.FunctionDef name params body _ _ _ scope _ _ pos) => ⟨name, params, body, scope, pos⟩
  | _ => ⟨"", default, [], default, default⟩
theorem hd (call : WalkO vw [] (XL vw []) (Hook.says hkD) PySem.Challenge.rw_xm0145_01.row.toRowW dD [] fun f vs => PySem.call f vs) : PySem.Challenge.rw_xm0145_01.Holds := by
  w_on
  refine holds_law said fun k1 => ?_
  refine holds_open (q := vw) (loose := []) (Xt := xtD) (XP := XL vw []) (Yf := Hook.obs hkD) (Ya := Hook.val hkD) (YP := Hook.says hkD) (N := 3062) (d := dD) (kwd := []) left0 (Hook.of hkD) (Hook.keeps hkD) (fun s e => xl_of s (Bool.and_eq_true_iff.mp e).1) XL.keeps ?hdef ?hp ?hk (fun s e => recFacts_of (Bool.and_eq_true_iff.mp e).2) ?hwr k1 ?ok ?hb ?hw call
  case hdef => kernel_rfl
  case hp => kernel_rfl
  case hk => kernel_rfl
  case hwr => rfl
  case ok => decide +kernel
  case hb => exact ⟨rfl, rfl, rfl, rfl, rfl, by decide +kernel⟩
  case hw => w_witness2
end Mine
end

section
namespace Mine
open PySem PySem.W PySem.Calls PyProof.Rows

noncomputable abbrev pg : Program := PySem.Challenge.rw_xm0145_01.row.prog
noncomputable abbrev KK (w : World) : Frag := KD w.params

/-- what stays of the run of the top -/
structure Tp (w : World) (h : Heap) : Prop where
  X : (KK w).In h
  T : ∃ mg mb, TopRead vw (looseW vw []) mg mb h
theorem Tp.keeps {w : World} {h h' : Heap} (x : Tp w h) (hk : ∀ b o, h.get? b = some o → h'.get? b = some o) : Tp w h' :=
  ⟨x.X.keeps hk, let ⟨mg, mb, T⟩ := x.T; ⟨mg, mb, T.keeps hk⟩⟩

/-- the values of the walk, seen without the heap -/
inductive A0 where
  | int (n : Int)
  | bool (b : Bool)
  | none
  | ref (a : Addr)
  | zs (xs : List Int)
  | zss (xss : List (List Int))
  | pool (xs : List Int) (k : Int)
inductive AV where
  | b (a : A0)
  | tup (l : List A0)

inductive All2 {α β : Type} (R : α → β → Prop) : List α → List β → Prop where
  | nil : All2 R [] []
  | cons {a b l l'} : R a b → All2 R l l' → All2 R (a :: l) (b :: l')
theorem All2.mono {α β : Type} {R R' : α → β → Prop} (f : ∀ a b, R a b → R' a b) : ∀ {l l'}, All2 R l l' → All2 R' l l'
  | _, _, .nil => .nil
  | _, _, .cons h t => .cons (f _ _ h) (All2.mono f t)
theorem All2.length {α β : Type} {R : α → β → Prop} : ∀ {l : List α} {l' : List β}, All2 R l l' → l.length = l'.length
  | _, _, .nil => rfl
  | _, _, .cons _ t => by simp [All2.length t]
theorem All2.get {α β : Type} {R : α → β → Prop} : ∀ {l : List α} {l' : List β}, All2 R l l' → ∀ (i : Nat) (b : β), l'[i]? = some b → ∃ a, l[i]? = some a ∧ R a b
  | _, _, .nil, i, b, h => by simp at h
  | _, _, .cons h t, 0, b, e => by simp at e; subst e; exact ⟨_, rfl, h⟩
  | _, _, .cons h t, i + 1, b, e => by simpa using All2.get t i b (by simpa using e)
theorem All2.snoc {α β : Type} {R : α → β → Prop} {a : α} {b : β} : ∀ {l : List α} {l' : List β}, All2 R l l' → R a b → All2 R (l ++ [a]) (l' ++ [b])
  | _, _, .nil, h => .cons h .nil
  | _, _, .cons h t, h' => .cons h (All2.snoc t h')

noncomputable def RI (v : Value) (n : Int) : Prop := ∃ t, v = .int n t
noncomputable def RL (h : Heap) (v : Value) (xs : List Int) : Prop := ∃ (a : Addr) (vs : List Value), v = .ref a ∧ h.PlainList a vs.toArray ∧ IntsAre vs xs
noncomputable def RR (h : Heap) (v : Value) (xss : List (List Int)) : Prop := ∃ (a : Addr) (vs : List Value), v = .ref a ∧ h.PlainList a vs.toArray ∧ All2 (RL h) vs xss
noncomputable def R0 (h : Heap) (v : Value) : A0 → Prop
  | .int n => RI v n
  | .bool b => v = .bool b
  | .none => v = .none
  | .ref a => v = .ref a
  | .zs xs => RL h v xs
  | .zss xss => RR h v xss
  | .pool xs k => ∃ (P S : Addr) (t : Tok) (us : List Value), v = .ref P ∧ h.PlainList P [Value.ref S, .int k t].toArray ∧ h.PlainList S us.toArray ∧ IntsAre us xs
noncomputable def Rep (h : Heap) (v : Value) : AV → Prop
  | .b a => R0 h v a
  | .tup l => ∃ (a : Addr) (vs : List Value), v = .ref a ∧ h.IsTuple a vs.toArray ∧ All2 (R0 h) vs l

/-- every object that bears a sequence stays -/
noncomputable def KS (h h' : Heap) : Prop := ∀ b o, (∃ vs n, o.data = .seq vs n) → h.get? b = some o → h'.get? b = some o
theorem plain_ks {h h' : Heap} {a : Addr} {vs : Array Value} (k : KS h h') (x : h.PlainList a vs) : h'.PlainList a vs := let ⟨n, e⟩ := x; ⟨n, k _ _ ⟨_, _, rfl⟩ e⟩
theorem RL.ks {h h' : Heap} {v : Value} {xs : List Int} (k : KS h h') (x : RL h v xs) : RL h' v xs := let ⟨a, vs, e, p, i⟩ := x; ⟨a, vs, e, plain_ks k p, i⟩
theorem RR.ks {h h' : Heap} {v : Value} {xss : List (List Int)} (k : KS h h') (x : RR h v xss) : RR h' v xss := let ⟨a, vs, e, p, i⟩ := x; ⟨a, vs, e, plain_ks k p, i.mono fun _ _ r => r.ks k⟩
theorem R0.ks {h h' : Heap} {v : Value} {a : A0} (k : KS h h') (x : R0 h v a) : R0 h' v a := by
  cases a with
  | int n => exact x
  | bool b => exact x
  | none => exact x
  | ref a => exact x
  | zs xs => exact RL.ks k x
  | zss xss => exact RR.ks k x
  | pool xs n => obtain ⟨P, S, t, us, e, p1, p2, i⟩ := x; exact ⟨P, S, t, us, e, plain_ks k p1, plain_ks k p2, i⟩
theorem Rep.ks {h h' : Heap} {v : Value} {a : AV} (k : KS h h') (x : Rep h v a) : Rep h' v a := by
  cases a with
  | b a => exact R0.ks k x
  | tup l =>
    obtain ⟨a, vs, e, ⟨o, ho, hc, n, hd⟩, i⟩ := x
    exact ⟨a, vs, e, ⟨o, k _ _ ⟨_, _, hd⟩ ho, hc, n, hd⟩, i.mono fun _ _ r => r.ks k⟩
theorem ks_of {h h' : Heap} (k : ∀ b o, h.get? b = some o → h'.get? b = some o) : KS h h' := fun b o _ e => k b o e
theorem ks_but {h h' : Heap} {L : Addr} {m : Str → Option Value} (hn : h.Ns L m) (k : Heap.ExtBut L h h') : KS h h' := fun b o hs e => k b o (fun q => by
  obtain ⟨o', es, ep, ho, hd, _⟩ := hn
  obtain ⟨vs, n, hv⟩ := hs
  subst q
  have := e.symm.trans ho; cases this
  rw [hv] at hd; cases hd) e
theorem ks_cell {h h' : Heap} {c : Addr} {v : Option Value} (hn : h.IsCell c v) (k : Heap.ExtBut c h h') : KS h h' := fun b o hs e => k b o (fun q => by
  obtain ⟨o', ho, hd⟩ := hn
  obtain ⟨vs, n, hv⟩ := hs
  subst q
  have := e.symm.trans ho; cases this
  rw [hv] at hd; cases hd) e

noncomputable def Kp (s s' : Shared) : Prop := Keeps s s'
/-- one activation: who runs, in what names, from which state -/
structure Act where
  w : World
  A : Around
  env : Env
  s₀ : Shared
  k : Nat
structure Act.Ok (C : Act) : Prop where
  handled : C.A.handled = none
  depth : C.A.depth + C.k < recursionLimit
  units : C.A.units + 8 * C.k + 200 < cLine
  kind : C.env.scope.kind = .function
  glob : C.env.globals = mainGlobals
  bi : C.env.builtins = builtinsNs
  top : Tp C.w C.s₀.heap
  apart : C.env.cells.Pairwise fun x y => x.2 ≠ y.2
  newL : C.s₀.heap.get? C.env.locals = none
  newC : ∀ x ∈ C.env.cells, C.s₀.heap.get? x.2 = none
  names : (C.env.cells.map (·.1)).Nodup

noncomputable abbrev Loc := List (Str × AV)
noncomputable def look (C : Act) (m cm : Str → Option Value) (x : Str) : Option Value := if C.env.kindOf x = some .local then m x else cm x
structure Sat (C : Act) (ρ : Loc) (s : Shared) : Prop where
  ok : C.Ok
  same : ∃ h tk, s = { C.s₀ with heap := h, toks := tk }
  keep : ∀ b o, C.s₀.heap.get? b = some o → s.heap.get? b = some o
  ex : ∃ m cm, s.heap.Ns C.env.locals m ∧ (∀ x ∈ C.env.cells, s.heap.IsCell x.2 (cm x.1)) ∧
    ∀ x a, ρ.lookup x = some a → ∃ v, look C m cm x = some v ∧ Rep s.heap v a

theorem Sat.top {C : Act} {ρ : Loc} {s : Shared} (x : Sat C ρ s) : Tp C.w s.heap := x.ok.top.keeps x.keep
theorem Sat.keeps {C : Act} {ρ : Loc} {s s' : Shared} (x : Sat C ρ s) (k : Kp s s') : Sat C ρ s' := by
  obtain ⟨h', tk, rfl, hk⟩ := k
  obtain ⟨h, tk', rfl⟩ := x.same
  obtain ⟨m, cm, hn, hc, hr⟩ := x.ex
  exact ⟨x.ok, ⟨h', tk, rfl⟩, fun b o e => hk b o (x.keep b o e), m, cm, hn.keeps hk, fun x e => (hc x e).keeps hk, fun y a e => let ⟨v, e1, r⟩ := hr y a e; ⟨v, e1, r.ks (ks_of hk)⟩⟩
theorem Sat.weaken {C : Act} {ρ ρ' : Loc} {s : Shared} (x : Sat C ρ s) (h : ∀ y a, ρ'.lookup y = some a → ρ.lookup y = some a) : Sat C ρ' s :=
  ⟨x.ok, x.same, x.keep, let ⟨m, cm, hn, hc, hr⟩ := x.ex; ⟨m, cm, hn, hc, fun y a e => hr y a (h y a e)⟩⟩


theorem Kp.rfl' {s : Shared} : Kp s s := ⟨s.heap, s.toks, rfl, fun _ _ e => e⟩
theorem Kp.trans {s s' s'' : Shared} (x : Kp s s') (y : Kp s' s'') : Kp s s'' := by
  obtain ⟨h, tk, rfl, hk⟩ := x
  obtain ⟨h', tk', rfl, hk'⟩ := y
  exact ⟨h', tk', rfl, fun b o e => hk' b o (hk b o e)⟩
theorem Kp.tok {s : Shared} (n : Nat) : Kp s { s with toks := n } := ⟨s.heap, n, rfl, fun _ _ e => e⟩
theorem Kp.push {s : Shared} (o : Obj) (n : Nat) : Kp s { s with heap := s.heap.push o, toks := n } := ⟨_, n, rfl, fun _ _ e => Heap.get?_push_of_some _ e⟩
theorem Kp.ks {s s' : Shared} (k : Kp s s') : KS s.heap s'.heap := by obtain ⟨h, tk, rfl, hk⟩ := k; exact ks_of hk
theorem Kp.get {s s' : Shared} (k : Kp s s') : ∀ b o, s.heap.get? b = some o → s'.heap.get? b = some o := by obtain ⟨h, tk, rfl, hk⟩ := k; exact hk

noncomputable def nE : Value → Shared → Prop := fun _ _ => False
theorem of_nE {α : Type} {M : Model} {A : Around} {t : Sem α} {Q : α → Shared → Prop} {E : Value → Shared → Prop} {s : Shared} (h : wpAny M A t Q nE s) : wpAny M A t Q E s :=
  wpAny_mono h (fun _ _ x => x) fun _ _ x => x.elim

/-- the expression has this value, and changes nothing that stands -/
noncomputable def Ev (C : Act) (ρ : Loc) (e : Expr) (a : AV) : Prop :=
  ∀ s (Q : Value → Shared → Prop), Sat C ρ s → (∀ v s', Kp s s' → Rep s'.heap v a → Q v s') → wpAny (model pg C.w) C.A (eval e C.env) Q nE s
/-- the test comes out so -/
noncomputable def Tr (C : Act) (ρ : Loc) (e : Expr) (b : Bool) : Prop :=
  ∀ s (Q : Bool → Shared → Prop), Sat C ρ s → (∀ s', Kp s s' → Q b s') → wpAny (model pg C.w) C.A (isTrue e C.env (eval e C.env)) Q nE s

inductive Out where
  | next (ρ : Loc)
  | ret (a : AV)
/-- what an activation leaves alone: all but its own names -/
noncomputable def Kf (C : Act) (s s' : Shared) : Prop := (∃ h tk, s' = { s with heap := h, toks := tk }) ∧ ∀ b o, b ≠ C.env.locals → (∀ x ∈ C.env.cells, x.2 ≠ b) → s.heap.get? b = some o → s'.heap.get? b = some o
theorem Kf.rfl' {C : Act} {s : Shared} : Kf C s s := ⟨⟨s.heap, s.toks, rfl⟩, fun _ _ _ _ e => e⟩
theorem Kf.trans {C : Act} {s s' s'' : Shared} (x : Kf C s s') (y : Kf C s' s'') : Kf C s s'' := by
  obtain ⟨⟨h, tk, rfl⟩, hk⟩ := x
  obtain ⟨⟨h', tk', rfl⟩, hk'⟩ := y
  exact ⟨⟨h', tk', rfl⟩, fun b o n1 n2 e => hk' b o n1 n2 (hk b o n1 n2 e)⟩
theorem Kp.kf {C : Act} {s s' : Shared} (k : Kp s s') : Kf C s s' := by obtain ⟨h, tk, rfl, hk⟩ := k; exact ⟨⟨h, tk, rfl⟩, fun b o _ _ e => hk b o e⟩
theorem Sat.ks {C : Act} {ρ : Loc} {s s' : Shared} (x : Sat C ρ s) (k : Kf C s s') : KS s.heap s'.heap := by
  obtain ⟨m, cm, ⟨oL, es, ep, hL, hd, _⟩, hc, _⟩ := x.ex
  intro b o hs e
  obtain ⟨vs, n, hv⟩ := hs
  refine k.2 b o (fun q => ?_) (fun y hy q => ?_) e
  · rw [q] at e; have := e.symm.trans hL; cases this; rw [hv] at hd; cases hd
  · obtain ⟨oc, ho, hd'⟩ := hc y hy
    rw [q] at ho; have := e.symm.trans ho; cases this; rw [hv] at hd'; cases hd'
noncomputable def OutSat (C : Act) : Out → Flow → Shared → Prop
  | .next ρ, fl, s => fl = .next ∧ Sat C ρ s
  | .ret a, fl, s => ∃ v, fl = .ret v ∧ (∃ ρ, Sat C ρ s) ∧ Rep s.heap v a
/-- the statements come to an end that K admits -/
noncomputable def Ex (C : Act) (ρ : Loc) (ss : List Stmt) (K : Out → Prop) : Prop :=
  ∀ s (Q : Flow → Shared → Prop), Sat C ρ s → (∀ o fl s', K o → Kf C s s' → OutSat C o fl s' → Q fl s') → wpAny (model pg C.w) C.A (execs ss C.env) Q nE s
/-- one statement -/
noncomputable def Ex1 (C : Act) (ρ : Loc) (st : Stmt) (K : Out → Prop) : Prop :=
  ∀ s (Q : Flow → Shared → Prop), Sat C ρ s → (∀ o fl s', K o → Kf C s s' → OutSat C o fl s' → Q fl s') → wpAny (model pg C.w) C.A (exec st C.env) Q nE s

section
variable {C : Act} {ρ : Loc}

theorem Ev.name {x : Str} {p : Pos} {a : AV} (hρ : ρ.lookup x = some a := by rfl) (hk : C.env.kindOf x = some .local ∨ (C.env.kindOf x = some .cell ∧ (C.env.cells.lookup x).isSome = true) := by first | exact Or.inl rfl | exact Or.inr ⟨rfl, rfl⟩)
    (hd : (x == ("__debug__" : Str)) = false := by decide) : Ev C ρ (.Name x p) a := by
  intro s Q hs hQ
  obtain ⟨m, cm, hn, hc, hr⟩ := hs.ex
  obtain ⟨v, e, r⟩ := hr x a hρ
  rcases hk with hk | ⟨hk, hcl⟩
  · unfold look at e
    rw [if_pos hk] at e
    exact wpAny_Name (wpAny_loadName_local hs.ok.kind hk hn e (hQ v s Kp.rfl' r)) hd
  · obtain ⟨c, hcl⟩ := Option.isSome_iff_exists.mp hcl
    unfold look at e
    rw [if_neg (by rw [hk]; decide)] at e
    exact wpAny_Name (wpAny_loadName_cell hs.ok.kind hk hcl (e ▸ hc (x, c) (mem_of_lookup hcl)) (hQ v s Kp.rfl' r)) hd

theorem Ev.int {n : Int} {k p} : Ev C ρ (.Constant (.int n) k p) (.b (.int n)) := fun s Q hs hQ => wpAny_Constant_int (hQ _ _ (Kp.tok _) ⟨_, rfl⟩)
theorem Ev.bool {b : Bool} {k p} : Ev C ρ (.Constant (.bool b) k p) (.b (.bool b)) := fun s Q hs hQ => wpAny_Constant_bool (hQ _ _ Kp.rfl' rfl)
theorem Ev.none {k p} : Ev C ρ (.Constant .none k p) (.b .none) := fun s Q hs hQ => wpAny_Constant_none (hQ _ _ Kp.rfl' rfl)

theorem Ev.bin {l r : Expr} {op : Operator} {p : Pos} {a b c : AV} (h1 : Ev C ρ l a) (h2 : Ev C ρ r b)
    (h : ∀ s u v (Q : Value → Shared → Prop), Sat C ρ s → Rep s.heap u a → Rep s.heap v b → (∀ v s', Kp s s' → Rep s'.heap v c → Q v s') → wpAny (model pg C.w) C.A (binaryOp op u v) Q nE s) :
    Ev C ρ (.BinOp l op r p) c := by
  intro s Q hs hQ
  refine wpAny_BinOp (h1 s _ hs fun u s1 k1 r1 => h2 s1 _ (hs.keeps k1) fun v s2 k2 r2 => ?_)
  exact h s2 u v _ ((hs.keeps k1).keeps k2) (r1.ks k2.ks) r2 fun v' s3 k3 r3 => hQ v' s3 ((k1.trans k2).trans k3) r3

theorem Ev.add {l r : Expr} {p : Pos} {a b : Int} (h1 : Ev C ρ l (.b (.int a))) (h2 : Ev C ρ r (.b (.int b))) : Ev C ρ (.BinOp l .Add r p) (.b (.int (a + b))) :=
  Ev.bin h1 h2 fun s u v Q hs r1 r2 hQ => by
    obtain ⟨t, rfl⟩ := r1; obtain ⟨t', rfl⟩ := r2
    exact PyProof.Rows.add_int (hQ _ _ (Kp.tok _) ⟨_, rfl⟩)
theorem Ev.sub {l r : Expr} {p : Pos} {a b : Int} (h1 : Ev C ρ l (.b (.int a))) (h2 : Ev C ρ r (.b (.int b))) : Ev C ρ (.BinOp l .Sub r p) (.b (.int (a - b))) :=
  Ev.bin h1 h2 fun s u v Q hs r1 r2 hQ => by
    obtain ⟨t, rfl⟩ := r1; obtain ⟨t', rfl⟩ := r2
    exact PyProof.Rows.sub_int (hQ _ _ (Kp.tok _) ⟨_, rfl⟩)
/-- a size that a product bears -/
noncomputable def Sm (n : Int) : Prop := n.natAbs < 2 ^ 4000
theorem Sm.bits {n : Int} (h : Sm n) : Builtin.Int.intBits n ≤ 4000 := by
  unfold Builtin.Int.intBits
  split
  · exact Nat.zero_le _
  · rename_i h0
    exact Nat.succ_le_of_lt ((Nat.log2_lt (by simpa using h0)).mpr h)
theorem Sm.mulOk {a b : Int} (ha : Sm a) (hb : Sm b) : IntMulOk a b := IntMulOk.of_bits (Nat.le_trans ha.bits (by decide +kernel)) (Nat.le_trans hb.bits (by decide +kernel))
theorem Sm.noPylong {a b : Int} (hb : Sm b) : Builtin.divisionGoesByPylong a b = false := by
  refine PyProof.noPylong_of_log2 ?_
  by_cases h0 : b.natAbs = 0
  · rw [h0]; decide +kernel
  · exact Nat.lt_of_lt_of_le ((Nat.log2_lt h0).mpr hb) (by decide +kernel)
theorem Ev.mul {l r : Expr} {p : Pos} {a b : Int} (h1 : Ev C ρ l (.b (.int a))) (h2 : Ev C ρ r (.b (.int b))) (ha : Sm a) (hb : Sm b) : Ev C ρ (.BinOp l .Mult r p) (.b (.int (a * b))) :=
  Ev.bin h1 h2 fun s u v Q hs r1 r2 hQ => by
    obtain ⟨t, rfl⟩ := r1; obtain ⟨t', rfl⟩ := r2
    exact PyProof.Rows.mul_int (hQ _ _ (Kp.tok _) ⟨_, rfl⟩) (hm := ha.mulOk hb)
theorem Ev.fdiv {l r : Expr} {p : Pos} {a b : Int} (h1 : Ev C ρ l (.b (.int a))) (h2 : Ev C ρ r (.b (.int b))) (hb : b ≠ 0) (hs : Sm b) : Ev C ρ (.BinOp l .FloorDiv r p) (.b (.int (a.fdiv b))) :=
  Ev.bin h1 h2 fun s u v Q _ r1 r2 hQ => by
    obtain ⟨t, rfl⟩ := r1; obtain ⟨t', rfl⟩ := r2
    exact PyProof.Rows.floordiv_int hb (hQ _ _ (Kp.tok _) ⟨_, rfl⟩) (hp := Or.inl hs.noPylong)
theorem Ev.fmod {l r : Expr} {p : Pos} {a b : Int} (h1 : Ev C ρ l (.b (.int a))) (h2 : Ev C ρ r (.b (.int b))) (hb : b ≠ 0) : Ev C ρ (.BinOp l .Mod r p) (.b (.int (a.fmod b))) :=
  Ev.bin h1 h2 fun s u v Q _ r1 r2 hQ => by
    obtain ⟨t, rfl⟩ := r1; obtain ⟨t', rfl⟩ := r2
    exact PyProof.Rows.mod_int' hb (hQ _ _ (Kp.tok _) ⟨_, rfl⟩)
theorem pow_room {a n : Int} (ha : Sm a) (hn : 0 ≤ n) (hn' : n ≤ 1000) : (Builtin.Int.intBits a : Int) * n ≤ 2 ^ 27 := by
  have h := ha.bits
  have h1 : (Builtin.Int.intBits a : Int) * n ≤ 4000 * 1000 := Int.mul_le_mul (by omega) hn' hn (by decide)
  omega
theorem Ev.pow {l r : Expr} {p : Pos} {a n : Int} (h1 : Ev C ρ l (.b (.int a))) (h2 : Ev C ρ r (.b (.int n))) (ha : Sm a) (hn : 0 ≤ n) (hn' : n ≤ 1000) : Ev C ρ (.BinOp l .Pow r p) (.b (.int (a ^ n.toNat))) :=
  Ev.bin h1 h2 fun s u v Q _ r1 r2 hQ => by
    obtain ⟨t, rfl⟩ := r1; obtain ⟨t', rfl⟩ := r2
    exact PyProof.Rows.pow_int hn (pow_room ha hn hn') (hQ _ _ (Kp.tok _) ⟨_, rfl⟩)
theorem Ev.neg {x : Expr} {p : Pos} {a : Int} (h1 : Ev C ρ x (.b (.int a))) : Ev C ρ (.UnaryOp .USub x p) (.b (.int (-a))) := fun s Q hs hQ =>
  wpAny_UnaryOp (h1 s _ hs fun u s1 k1 r1 => by
    obtain ⟨t, rfl⟩ := r1
    exact PyProof.Rows.neg_int (hQ _ _ (k1.trans (Kp.tok _)) ⟨_, rfl⟩))
end
end Mine
end

section
namespace Mine
open PySem PySem.W PySem.Calls PyProof.Rows

section
variable {C : Act} {ρ : Loc}

/-! comparisons -/
noncomputable def Cmp (C : Act) (op : CmpOp) (a b : AV) (r : Bool) : Prop :=
  ∀ s u v (Q : Value → Shared → Prop), C.Ok → Rep s.heap u a → Rep s.heap v b → (∀ s', Kp s s' → Q (.bool r) s') → wpAny (model pg C.w) C.A (compareOp op u v) Q nE s
theorem Ev.cmp {l r : Expr} {op : CmpOp} {p : Pos} {a b : AV} {c : Bool} (h1 : Ev C ρ l a) (h2 : Ev C ρ r b) (h : Cmp C op a b c)
    (hm : behindInMarks op r = false := by with_unfolding_all rfl) : Ev C ρ (.Compare l [op] [r] p) (.b (.bool c)) := by
  intro s Q hs hQ
  refine wpAny_Compare1 (h1 s _ hs fun u s1 k1 r1 => h2 s1 _ (hs.keeps k1) fun v s2 k2 r2 => ?_) hm
  exact h s2 u v _ hs.ok (r1.ks k2.ks) r2 fun s3 k3 => hQ _ s3 ((k1.trans k2).trans k3) rfl
theorem Tr.cmp {l r : Expr} {op : CmpOp} {p : Pos} {a b : AV} {c : Bool} (h1 : Ev C ρ l a) (h2 : Ev C ρ r b) (h : Cmp C op a b c)
    (hm : behindInMarks op r = false := by with_unfolding_all rfl) : Tr C ρ (.Compare l [op] [r] p) c := by
  intro s Q hs hQ
  refine wpAny_isTrue_Compare1 (h1 s _ hs fun u s1 k1 r1 => h2 s1 _ (hs.keeps k1) fun v s2 k2 r2 => ?_) hm
  exact h s2 u v _ hs.ok (r1.ks k2.ks) r2 fun s3 k3 => wpAny_truthy_bool (hQ s3 ((k1.trans k2).trans k3))

theorem Cmp.eq {a b : Int} : Cmp C .Eq (.b (.int a)) (.b (.int b)) (a == b) := fun s u v Q _ r1 r2 hQ => by
  obtain ⟨t, rfl⟩ := r1; obtain ⟨t', rfl⟩ := r2; exact PyProof.Rows.eq_int (hQ s Kp.rfl')
theorem Cmp.ne {a b : Int} : Cmp C .NotEq (.b (.int a)) (.b (.int b)) (a != b) := fun s u v Q _ r1 r2 hQ => by
  obtain ⟨t, rfl⟩ := r1; obtain ⟨t', rfl⟩ := r2; exact PyProof.Rows.ne_int (hQ s Kp.rfl')
theorem Cmp.lt {a b : Int} : Cmp C .Lt (.b (.int a)) (.b (.int b)) (decide (a < b)) := fun s u v Q _ r1 r2 hQ => by
  obtain ⟨t, rfl⟩ := r1; obtain ⟨t', rfl⟩ := r2; exact PyProof.Rows.lt_int (hQ s Kp.rfl')
theorem Cmp.le {a b : Int} : Cmp C .LtE (.b (.int a)) (.b (.int b)) (decide (a ≤ b)) := fun s u v Q _ r1 r2 hQ => by
  obtain ⟨t, rfl⟩ := r1; obtain ⟨t', rfl⟩ := r2; exact PyProof.Rows.le_int (hQ s Kp.rfl')
theorem Cmp.gt {a b : Int} : Cmp C .Gt (.b (.int a)) (.b (.int b)) (decide (b < a)) := fun s u v Q _ r1 r2 hQ => by
  obtain ⟨t, rfl⟩ := r1; obtain ⟨t', rfl⟩ := r2; exact PyProof.Rows.gt_int (hQ s Kp.rfl')
theorem Cmp.ge {a b : Int} : Cmp C .GtE (.b (.int a)) (.b (.int b)) (decide (b ≤ a)) := fun s u v Q _ r1 r2 hQ => by
  obtain ⟨t, rfl⟩ := r1; obtain ⟨t', rfl⟩ := r2; exact PyProof.Rows.ge_int (hQ s Kp.rfl')
theorem Cmp.isNoneInt {a : Int} : Cmp C .Is (.b (.int a)) (.b .none) false := fun s u v Q _ r1 r2 hQ => by
  obtain ⟨t, rfl⟩ := r1; cases r2; exact is_none (hQ s Kp.rfl')
theorem Cmp.isNoneNone : Cmp C .Is (.b .none) (.b .none) true := fun s u v Q _ r1 r2 hQ => by
  cases r1; cases r2; exact is_none (hQ s Kp.rfl')
theorem Act.Ok.room (h : C.Ok) : C.A.units + 64 < cLine := by have := h.units; omega
theorem Cmp.eqL {xs ys : List Int} : Cmp C .Eq (.b (.zs xs)) (.b (.zs ys)) (decide (xs = ys)) := fun s u v Q ok r1 r2 hQ => by
  obtain ⟨a, vs, rfl, p1, i1⟩ := r1; obtain ⟨b, us, rfl, p2, i2⟩ := r2
  exact eq_intsK p1.isList i1 p2.isList i2 ok.room (hQ s Kp.rfl')
theorem Cmp.neL {xs ys : List Int} : Cmp C .NotEq (.b (.zs xs)) (.b (.zs ys)) (!decide (xs = ys)) := fun s u v Q ok r1 r2 hQ => by
  obtain ⟨a, vs, rfl, p1, i1⟩ := r1; obtain ⟨b, us, rfl, p2, i2⟩ := r2
  exact ne_intsK p1.isList i1 p2.isList i2 ok.room (hQ s Kp.rfl')

/-! truth -/
theorem Tr.and {x y : Expr} {p : Pos} {b c : Bool} (h1 : Tr C ρ x b) (h2 : b = true → Tr C ρ y c) : Tr C ρ (.BoolOp .And [x, y] p) (b && c) := by
  intro s Q hs hQ
  refine wpAny_isTrue_BoolOp (wpAny_allTrue_And_cons (h1 s _ hs fun s1 k1 => ?_))
  cases hb : b with
  | false => simp only [Bool.false_eq_true, if_false]; have := hQ s1 k1; rw [hb] at this; exact this
  | true =>
    simp only [if_true]
    refine wpAny_allTrue_And_cons (h2 hb s1 _ (hs.keeps k1) fun s2 k2 => ?_)
    have := hQ s2 (k1.trans k2)
    rw [hb] at this
    cases hc : c with
    | false => simp only [Bool.false_eq_true, if_false]; rw [hc] at this; exact this
    | true => simp only [if_true]; rw [hc] at this; exact wpAny_allTrue_And_nil this
theorem Tr.or {x y : Expr} {p : Pos} {b c : Bool} (h1 : Tr C ρ x b) (h2 : b = false → Tr C ρ y c) : Tr C ρ (.BoolOp .Or [x, y] p) (b || c) := by
  intro s Q hs hQ
  refine wpAny_isTrue_BoolOp (wpAny_allTrue_Or_cons (h1 s _ hs fun s1 k1 => ?_))
  cases hb : b with
  | true => simp only [if_true]; have := hQ s1 k1; rw [hb] at this; exact this
  | false =>
    simp only [Bool.false_eq_true, if_false]
    refine wpAny_allTrue_Or_cons (h2 hb s1 _ (hs.keeps k1) fun s2 k2 => ?_)
    have := hQ s2 (k1.trans k2)
    rw [hb] at this
    cases hc : c with
    | true => simp only [if_true]; rw [hc] at this; exact this
    | false => simp only [Bool.false_eq_true, if_false]; rw [hc] at this; exact wpAny_allTrue_Or_nil this
theorem Tr.not {x : Expr} {p : Pos} {b : Bool} (h1 : Tr C ρ x b) : Tr C ρ (.UnaryOp .Not x p) (!b) := by
  intro s Q hs hQ
  exact wpAny_isTrue_Not (h1 s _ hs fun s1 k1 => hQ s1 k1)
theorem Tr.val {e : Expr} {b : Bool} (h : Ev C ρ e (.b (.bool b))) (he : isTrue e C.env (eval e C.env) = (do let v ← eval e C.env; standAt e.pos; holding [v] (truthy v)) := by rfl) : Tr C ρ e b := by
  intro s Q hs hQ
  exact wpAny_isTrue_value (h s _ hs fun v s1 k1 r1 => by cases r1; exact wpAny_truthy_bool (hQ s1 k1)) he
theorem Ev.or {x y : Expr} {p : Pos} {b c : Bool} (h1 : Ev C ρ x (.b (.bool b))) (h2 : b = false → Ev C ρ y (.b (.bool c))) : Ev C ρ (.BoolOp .Or [x, y] p) (.b (.bool (b || c))) := by
  intro s Q hs hQ
  refine wpAny_Or2 (h1 s _ hs fun v s1 k1 r1 => ?_)
  cases r1
  refine wpAny_truthy_bool ?_
  cases hb : b with
  | true => simp only [if_true]; have := hQ (.bool true) s1 k1; rw [hb] at this; exact this rfl
  | false =>
    simp only [Bool.false_eq_true, if_false]
    refine h2 hb s1 _ (hs.keeps k1) fun v s2 k2 r2 => ?_
    have := hQ v s2 (k1.trans k2)
    rw [hb] at this; exact this r2
theorem Ev.and {x y : Expr} {p : Pos} {b c : Bool} (h1 : Ev C ρ x (.b (.bool b))) (h2 : b = true → Ev C ρ y (.b (.bool c))) : Ev C ρ (.BoolOp .And [x, y] p) (.b (.bool (b && c))) := by
  intro s Q hs hQ
  refine wpAny_And2 (h1 s _ hs fun v s1 k1 r1 => ?_)
  cases r1
  refine wpAny_truthy_bool ?_
  cases hb : b with
  | false => simp only [Bool.false_eq_true, if_false]; have := hQ (.bool false) s1 k1; rw [hb] at this; exact this rfl
  | true =>
    simp only [if_true]
    refine h2 hb s1 _ (hs.keeps k1) fun v s2 k2 r2 => ?_
    have := hQ v s2 (k1.trans k2)
    rw [hb] at this; exact this r2
theorem Ev.ife {t x y : Expr} {p : Pos} {b : Bool} {a c : AV} (h : Tr C ρ t b) (h1 : b = true → Ev C ρ x a) (h2 : b = false → Ev C ρ y c) : Ev C ρ (.IfExp t x y p) (if b then a else c) := by
  intro s Q hs hQ
  refine wpAny_IfExp (h s _ hs fun s1 k1 => ?_)
  cases hb : b with
  | true => simp only [if_true]; rw [hb] at hQ; exact h1 hb s1 _ (hs.keeps k1) fun v s2 k2 r2 => hQ v s2 (k1.trans k2) r2
  | false => simp only [Bool.false_eq_true, if_false]; rw [hb] at hQ; exact h2 hb s1 _ (hs.keeps k1) fun v s2 k2 r2 => hQ v s2 (k1.trans k2) r2
theorem Ev.ifi {t x y : Expr} {p : Pos} {b : Bool} {m n : Int} (h : Tr C ρ t b) (h1 : b = true → Ev C ρ x (.b (.int m))) (h2 : b = false → Ev C ρ y (.b (.int n))) : Ev C ρ (.IfExp t x y p) (.b (.int (if b then m else n))) := by
  have := Ev.ife (p := p) h h1 h2
  cases b <;> exact this
theorem Ev.ifl {t x y : Expr} {p : Pos} {b : Bool} {m n : List Int} (h : Tr C ρ t b) (h1 : b = true → Ev C ρ x (.b (.zs m))) (h2 : b = false → Ev C ρ y (.b (.zs n))) : Ev C ρ (.IfExp t x y p) (.b (.zs (if b then m else n))) := by
  have := Ev.ife (p := p) h h1 h2
  cases b <;> exact this

/-! several expressions in a row -/
noncomputable def Evs (C : Act) (ρ : Loc) (es : List Expr) (as : List AV) : Prop :=
  (∀ x ∈ starEach es C.env, x.1 = false) ∧
  ∀ p s (Q : List Value → Shared → Prop), Sat C ρ s → (∀ vs s', Kp s s' → All2 (Rep s'.heap) vs as → Q vs s') → wpAny (model pg C.w) C.A (spliced (backTo p (starEach es C.env))) Q nE s
theorem Evs.nil : Evs C ρ [] [] := ⟨fun _ h => (nomatch h), fun p s Q hs hQ => wpAny_items_nil (hQ _ _ Kp.rfl' .nil)⟩
theorem Evs.cons {e : Expr} {es : List Expr} {a : AV} {as : List AV} (h : Ev C ρ e a) (t : Evs C ρ es as) (he : starEach (e :: es) C.env = (false, eval e C.env) :: starEach es C.env := by rfl) : Evs C ρ (e :: es) (a :: as) := by
  refine ⟨fun x hx => ?_, fun p s Q hs hQ => ?_⟩
  · rw [he] at hx
    rcases List.mem_cons.mp hx with rfl | hx
    · rfl
    · exact t.1 x hx
  · refine wpAny_items_cons (h s _ hs fun v s1 k1 r1 => t.2 p s1 _ (hs.keeps k1) fun vs s2 k2 r2 => ?_) he
    exact hQ _ s2 (k1.trans k2) (.cons (r1.ks k2.ks) r2)
theorem backTo_plain {p : Pos} {l : List (Bool × Sem Value)} (h : ∀ x ∈ l, x.1 = false) : (backTo p l).any (·.1) = false := by
  rw [List.any_eq_false]
  intro x hx
  obtain ⟨y, hy, rfl⟩ := List.mem_map.mp hx
  simpa using h y hy
theorem evalArgs_all {M : Model} {A : Around} {E : Value → Shared → Prop} {s : Shared} {f : Value} {l : List (Bool × Sem Value)} {Q : Args → Shared → Prop} (hl : ∀ x ∈ l, x.1 = false)
    (h : wpAny M A (spliced l) (fun vs s' => Q ⟨vs, []⟩ s') E s) : wpAny M A (evalArgs f true l []) Q E s := by
  cases l with
  | nil =>
    unfold evalArgs
    show wpAny M A (spliced [] >>= _) Q E s
    refine wpAny_bind (wpAny_mono h (fun vs s' h' => ?_) fun _ _ x => x)
    refine wpAny_holding ?_
    exact wpAny_bind (wpAny_pure (wpAny_bind (wpAny_pure (wpAny_pure h'))))
  | cons x l =>
    obtain ⟨b, t⟩ := x
    have hb : b = false := hl _ List.mem_cons_self
    subst hb
    exact evalArgs_plain h
theorem Evs.args {es : List Expr} {as : List AV} {f : Value} {p : Pos} {s : Shared} {Q : Args → Shared → Prop} (h : Evs C ρ es as) (hs : Sat C ρ s) (hQ : ∀ vs s', Kp s s' → All2 (Rep s'.heap) vs as → Q ⟨vs, []⟩ s') :
    wpAny (model pg C.w) C.A (evalArgs f true (backTo p (starEach es C.env)) []) Q nE s := by
  refine evalArgs_all ?_ (h.2 p s _ hs fun vs s' k r => hQ vs s' k r)
  intro x hx
  obtain ⟨y, hy, rfl⟩ := List.mem_map.mp hx
  exact h.1 y hy

theorem sizeL {n : Nat} (h : n ≤ 1000000) : n ≤ sizeLine := Nat.le_trans h (by rw [sizeLine_eq]; decide)
/-- a display of ints -/
theorem all2_ints {h : Heap} : ∀ {vs : List Value} {xs : List Int}, All2 (Rep h) vs (xs.map fun n => .b (.int n)) → IntsAre vs xs
  | _, [], .nil => .nil
  | _, _ :: _, .cons ⟨t, e⟩ r => by subst e; exact .cons _ t (all2_ints r)
theorem Ev.listI {es : List Expr} {p : Pos} {xs : List Int} (h : Evs C ρ es (xs.map fun n => .b (.int n))) (hz : es.length ≤ 1000 := by decide) (hx : xs.length = es.length := by rfl) : Ev C ρ (.List es p) (.b (.zs xs)) := by
  intro s Q hs hQ
  refine wpAny_List (h.2 p s _ hs fun vs s1 k1 r1 => ⟨?_, ?_⟩)
  · have := r1.length; rw [List.length_map] at this; exact sizeL (by omega)
  · refine hQ _ _ (k1.trans (Kp.push _ _)) ⟨_, vs, rfl, ⟨_, Heap.get?_push_size _ rfl⟩, all2_ints r1⟩
theorem all2_rows {h : Heap} : ∀ {vs : List Value} {xs : List (List Int)}, All2 (Rep h) vs (xs.map fun n => .b (.zs n)) → All2 (RL h) vs xs
  | _, [], .nil => .nil
  | _, _ :: _, .cons e r => .cons e (all2_rows r)
theorem Ev.listR {es : List Expr} {p : Pos} {xs : List (List Int)} (h : Evs C ρ es (xs.map fun n => .b (.zs n))) (hz : es.length ≤ 1000 := by decide) (hx : xs.length = es.length := by rfl) : Ev C ρ (.List es p) (.b (.zss xs)) := by
  intro s Q hs hQ
  refine wpAny_List (h.2 p s _ hs fun vs s1 k1 r1 => ⟨?_, ?_⟩)
  · have := r1.length; rw [List.length_map] at this; exact sizeL (by omega)
  · have k2 : Kp s1 { s1 with heap := s1.heap.push { cls := .type "list", data := .seq vs.toArray } } := Kp.push _ _
    exact hQ _ _ (k1.trans k2) ⟨_, vs, rfl, ⟨_, Heap.get?_push_size _ rfl⟩, (all2_rows r1).mono fun _ _ r => r.ks k2.ks⟩
theorem all2_base {h : Heap} : ∀ {vs : List Value} {xs : List A0}, All2 (Rep h) vs (xs.map .b) → All2 (R0 h) vs xs
  | _, [], .nil => .nil
  | _, _ :: _, .cons e r => .cons e (all2_base r)
theorem Ev.tup {es : List Expr} {k : Nat} {p : Pos} {as : List A0} (h : Evs C ρ es (as.map .b)) (hz : es.length ≤ 1000 := by decide) (hx : as.length = es.length := by rfl) : Ev C ρ (.Tuple es k p) (.tup as) := by
  intro s Q hs hQ
  refine wpAny_Tuple (h.2 p s _ hs fun vs s1 k1 r1 => ⟨?_, ?_⟩)
  · have := r1.length; rw [List.length_map] at this; exact sizeL (by omega)
  · have k2 : Kp s1 { s1 with heap := s1.heap.push { cls := .type "tuple", data := .seq vs.toArray } } := Kp.push _ _
    exact hQ _ _ (k1.trans k2) ⟨_, vs, rfl, ⟨_, Heap.get?_push_size _ rfl, rfl, _, rfl⟩, (all2_base r1).mono fun _ _ r => r.ks k2.ks⟩

/-! global names -/
noncomputable def Gf (f : Str) (a : Addr) : Prop := ∀ w : World, nsIn (KK w) mainGlobals f = some (some (.ref a))
noncomputable def Gb (f : Str) (v : Value) : Prop := (∀ w : World, nsIn (KK w) mainGlobals f = some none) ∧ bootBuiltins f = some v ∧ f ≠ "__name__"
theorem ev_global {f : Str} {a : Addr} {p : Pos} {s : Shared} {Q : Value → Shared → Prop} (hg : Gf f a) (hs : Sat C ρ s) (hk : C.env.kindOf f = some .globalImplicit) (hd : (f == ("__debug__" : Str)) = false) (h : Q (.ref a) s) :
    wpAny (model pg C.w) C.A (eval (.Name f p) C.env) Q nE s := by
  obtain ⟨X, mg, mb, T⟩ := hs.top
  exact Name_function_global hs.ok.kind hk (loadGlobal_global (by rw [hs.ok.glob]; exact T.g) (mg_of X T.g (hg C.w)) h) hd
theorem ev_builtin {f : Str} {v : Value} {p : Pos} {s : Shared} {Q : Value → Shared → Prop} (hg : Gb f v) (hs : Sat C ρ s) (hk : C.env.kindOf f = some .globalImplicit) (hd : (f == ("__debug__" : Str)) = false) (h : Q v s) :
    wpAny (model pg C.w) C.A (eval (.Name f p) C.env) Q nE s := by
  obtain ⟨X, mg, mb, T⟩ := hs.top
  exact Name_function_global hs.ok.kind hk (loadGlobal_builtin (by rw [hs.ok.glob]; exact T.g) (mg_none_of X T.g (hg.1 C.w)) (by rw [hs.ok.bi]; exact T.b) ((T.builtins f hg.2.2).trans hg.2.1) h) hd

/-! contracts -/
structure Room (A : Around) (k : Nat) : Prop where
  handled : A.handled = none
  depth : A.depth + k < recursionLimit
  units : A.units + 8 * k + 200 < cLine
theorem Act.Ok.toRoom (h : C.Ok) : Room C.A C.k := ⟨h.handled, h.depth, h.units⟩
theorem Room.le {A : Around} {k k' : Nat} (h : Room A k) (hk : k' ≤ k) : Room A k' := ⟨h.handled, by have := h.depth; omega, by have := h.units; omega⟩
noncomputable def Fn (k : Nat) (f : Addr) (as : List AV) (r : AV) : Prop :=
  ∀ w A s vs (Q : Value → Shared → Prop), Room A k → Tp w s.heap → All2 (Rep s.heap) vs as → (∀ v s', Kp s s' → Rep s'.heap v r → Q v s') → wpAny (model pg w) A (call (.ref f) vs) Q nE s
noncomputable def IsFn (f : Addr) : Prop := ∀ w : World, ∃ o fd, (KK w).lookup f = some o ∧ o.data = .func fd
theorem Ev.call {f : Str} {a : Addr} {es : List Expr} {p q : Pos} {as : List AV} {r : AV} {k : Nat} (hg : Gf f a) (hf : IsFn a) (args : Evs C ρ es as) (c : Fn k a as r) (hk : k ≤ C.k := by exact Nat.le_of_ble_eq_true rfl) (hg' : C.env.kindOf f = some .globalImplicit := by rfl)
    (hd : (f == ("__debug__" : Str)) = false := by decide) : Ev C ρ (.Call (.Name f p) es [] q) r := by
  intro s Q hs hQ
  refine wpAny_Call_NameR (ev_global hg hs hg' hd ?_)
  obtain ⟨o, fd, e1, e2⟩ := hf C.w
  refine callWith_function (o := o) (fd := fd) (args.args hs fun vs s1 k1 r1 => ⟨⟨(hs.keeps k1).top.X _ _ e1, e2⟩, ?_⟩)
  exact c C.w C.A s1 vs Q (hs.ok.toRoom.le hk) (hs.keeps k1).top r1 fun v s2 k2 r2 => hQ v s2 (k1.trans k2) r2
/-- a built-in function upon values -/
noncomputable def Bn (C : Act) (id : String) (as : List AV) (r : AV) : Prop :=
  ∀ s vs (Q : Value → Shared → Prop), C.Ok → All2 (Rep s.heap) vs as → (∀ v s', Kp s s' → Rep s'.heap v r → Q v s') → wpAny (model pg C.w) C.A (PySem.call (.builtin id) vs) Q nE s
theorem Ev.callB {f : Str} {id : String} {es : List Expr} {p q : Pos} {as : List AV} {r : AV} (hg : Gb f (.builtin id)) (args : Evs C ρ es as) (c : Bn C id as r) (hg' : C.env.kindOf f = some .globalImplicit := by rfl)
    (hd : (f == ("__debug__" : Str)) = false := by decide) : Ev C ρ (.Call (.Name f p) es [] q) r := by
  intro s Q hs hQ
  refine wpAny_Call_NameR (ev_builtin hg hs hg' hd ?_)
  refine callWith_builtin (backTo_plain args.1) (args.args hs fun vs s1 k1 r1 => ?_)
  exact c s1 vs Q hs.ok r1 fun v s2 k2 r2 => hQ v s2 (k1.trans k2) r2
noncomputable def Bt (C : Act) (id : String) (as : List AV) (r : AV) : Prop :=
  ∀ s vs (Q : Value → Shared → Prop), C.Ok → All2 (Rep s.heap) vs as → (∀ v s', Kp s s' → Rep s'.heap v r → Q v s') → wpAny (model pg C.w) C.A (PySem.call (.type id) vs) Q nE s
theorem Ev.callT {f : Str} {id : String} {es : List Expr} {p q : Pos} {as : List AV} {r : AV} (hg : Gb f (.type id)) (args : Evs C ρ es as) (c : Bt C id as r) (hg' : C.env.kindOf f = some .globalImplicit := by rfl)
    (hd : (f == ("__debug__" : Str)) = false := by decide) : Ev C ρ (.Call (.Name f p) es [] q) r := by
  intro s Q hs hQ
  refine wpAny_Call_NameR (ev_builtin hg hs hg' hd ?_)
  refine PySem.callWith_type (backTo_plain args.1) (args.args hs fun vs s1 k1 r1 => ?_)
  exact c s1 vs Q hs.ok r1 fun v s2 k2 r2 => hQ v s2 (k1.trans k2) r2
end
end Mine
end

section
namespace Mine
open PySem PySem.W PySem.Calls PyProof.Rows

section
variable {C : Act} {ρ : Loc}

/-! built-ins -/
theorem Bn.len {xs : List Int} (hz : xs.length ≤ 1000000) : Bn C "len" [.b (.zs xs)] (.b (.int xs.length)) := by
  intro s vs Q ok r hQ
  obtain _ | ⟨⟨a, us, rfl, p, i⟩, _ | _⟩ := r
  refine call_len_list p.isList (by rw [List.size_toArray, i.length]; omega) ?_
  refine hQ _ _ (Kp.tok _) ⟨s.toks + 1, ?_⟩
  rw [List.size_toArray, i.length]
theorem Bn.lenR {xs : List (List Int)} (hz : xs.length ≤ 1000000) : Bn C "len" [.b (.zss xs)] (.b (.int xs.length)) := by
  intro s vs Q ok r hQ
  obtain _ | ⟨⟨a, us, rfl, p, i⟩, _ | _⟩ := r
  refine call_len_list p.isList (by rw [List.size_toArray, i.length]; omega) ?_
  refine hQ _ _ (Kp.tok _) ⟨s.toks + 1, ?_⟩
  rw [List.size_toArray, i.length]
theorem Bn.abs {n : Int} : Bn C "abs" [.b (.int n)] (.b (.int (n.natAbs : Int))) := by
  intro s vs Q ok r hQ
  obtain _ | ⟨⟨t, rfl⟩, _ | _⟩ := r
  refine call_abs_int fun u tk => ?_
  refine hQ _ _ (Kp.tok _) ⟨u, ?_⟩
  congr 1
  split <;> omega
theorem Bn.max {a b : Int} : Bn C "max" [.b (.int a), .b (.int b)] (.b (.int (Max.max a b))) := by
  intro s vs Q ok r hQ
  obtain _ | ⟨⟨t, rfl⟩, _ | ⟨⟨t', rfl⟩, _ | _⟩⟩ := r
  refine max_two_ints ok.handled fun h' tk hk => ?_
  refine hQ _ _ ⟨h', tk, rfl, hk⟩ ?_
  split
  · exact ⟨_, by congr 1; omega⟩
  · exact ⟨_, by congr 1; omega⟩
theorem Bt.list {xs : List Int} (hz : xs.length ≤ 1000000) : Bt C "list" [.b (.zs xs)] (.b (.zs xs)) := by
  intro s vs Q ok r hQ
  obtain _ | ⟨⟨a, us, rfl, ⟨n, e⟩, i⟩, _ | _⟩ := r
  refine call_list_seq (hsz := by rw [List.size_toArray, i.length]; exact sizeL hz) a (.inl rfl) e rfl rfl fun h' c' hk hD => ?_
  exact hQ _ _ ⟨h', _, rfl, hk⟩ ⟨_, us, rfl, ⟨_, hD⟩, i⟩

/-! list + list, list * n -/
theorem Ev.cat {l r : Expr} {p : Pos} {xs ys : List Int} (h1 : Ev C ρ l (.b (.zs xs))) (h2 : Ev C ρ r (.b (.zs ys))) (hz : xs.length + ys.length ≤ 1000000) : Ev C ρ (.BinOp l .Add r p) (.b (.zs (xs ++ ys))) :=
  Ev.bin h1 h2 fun s u v Q hs r1 r2 hQ => by
    obtain ⟨a, us, rfl, ⟨n, e⟩, i⟩ := r1; obtain ⟨b, ws, rfl, ⟨n', e'⟩, i'⟩ := r2
    refine P.add_list (hsz := by rw [List.size_toArray, List.size_toArray, i.length, i'.length]; exact sizeL hz) e e' ?_
    refine hQ _ _ (Kp.push _ _) ⟨_, us ++ ws, rfl, ⟨0, ?_⟩, i.append i'⟩
    have := Heap.get?_push_size s.heap (o := { cls := Value.type "list", data := Data.seq (us.toArray ++ ws.toArray) }) rfl
    exact this.trans (by rw [List.append_toArray])
theorem ints_rep {vs : List Value} {xs : List Int} (i : IntsAre vs xs) : ∀ k, IntsAre (List.replicate k vs).flatten (List.replicate k xs).flatten
  | 0 => .nil
  | k + 1 => by simp only [List.replicate_succ, List.flatten_cons]; exact i.append (ints_rep i k)
theorem Ev.rep {l r : Expr} {p : Pos} {xs : List Int} {n : Int} (h1 : Ev C ρ l (.b (.zs xs))) (h2 : Ev C ρ r (.b (.int n))) (hn : n ≤ 1000) (hn' : -1000000 ≤ n) (hz : xs.length ≤ 1000) : Ev C ρ (.BinOp l .Mult r p) (.b (.zs (List.replicate n.toNat xs).flatten)) :=
  Ev.bin h1 h2 fun s u v Q hs r1 r2 hQ => by
    obtain ⟨a, us, rfl, ⟨k, e⟩, i⟩ := r1; obtain ⟨t, rfl⟩ := r2
    have hb : us.toArray.size * n.toNat ≤ 1000 * 1000 := Nat.mul_le_mul (by rw [List.size_toArray, i.length]; exact hz) (by omega)
    have hb' : us.length * n.toNat ≤ 1000 * 1000 := Nat.mul_le_mul (by rw [i.length]; exact hz) (by omega)
    refine wpAny_binaryOp_repeat_ref (T := "list") (U := "int") (by decide) ⟨_, e, rfl⟩ (fun s' => typeIs_int s' n t) noFill_list_mul F.fills_int_mul F.slot_int_rmul repeat_list F.slot_int_index.lookup
      (call_meets F.slot_int_rmul (typeIs_int s n t) F.entry_int_rmul (F.args_int_rmul_2 _ _) (int___rmul___int_list n t a us.toArray k)
        ⟨e, rfl, ⟨_, e, rfl⟩, call_meets F.slot_list_mul ⟨_, e, rfl⟩ F.entry_list_mul (F.args_list_mul_2 _ _)
          (AutoListH.list___mul___list_int_3 a us.toArray k n t (by simp [Builtin.List.listFitsIndex]; omega) (by omega) (by simp [Builtin.List.listTooLong, sizeLine]; omega))
          ⟨e, ?_⟩⟩)
    refine hQ _ _ (Kp.push _ _) ⟨_, (List.replicate n.toNat us).flatten, rfl, ⟨0, ?_⟩, ints_rep i _⟩
    have := Heap.get?_push_size s.heap (o := { cls := Value.type "list", data := Data.seq (List.foldl (fun x1 x2 => x1 ++ x2) #[] (List.replicate (if us.toArray.isEmpty = true then 0 else n.toNat) us.toArray)) }) rfl
    exact this.trans (by rw [listMul_foldl_if])

/-! items -/
theorem Ev.sub_ {e i : Expr} {p : Pos} {a b c : AV} (h1 : Ev C ρ e a) (h2 : Ev C ρ i b)
    (h : ∀ s u v (Q : Value → Shared → Prop), Rep s.heap u a → Rep s.heap v b → (∀ v s', Kp s s' → Rep s'.heap v c → Q v s') → wpAny (model pg C.w) C.A (subscriptTail e i u v) Q nE s) : Ev C ρ (.Subscript e i p) c := by
  intro s Q hs hQ
  refine Subscript_ (h1 s _ hs fun u s1 k1 r1 => h2 s1 _ (hs.keeps k1) fun v s2 k2 r2 => ?_)
  exact h s2 u v _ (r1.ks k2.ks) r2 fun v' s3 k3 r3 => hQ v' s3 ((k1.trans k2).trans k3) r3
theorem Ev.idx {e i : Expr} {p : Pos} {xs : List Int} {k n : Int} (h1 : Ev C ρ e (.b (.zs xs))) (h2 : Ev C ρ i (.b (.int k))) (h0 : 0 ≤ k) (hk : k < 1000000) (hx : xs[k.toNat]? = some n)
    (hs : ∀ a t, subscripted i false (.ref a) (.int k t) = operate [.ref a, .int k t] (getItem (.ref a) (.int k t)) := by with_unfolding_all (intro _ _; rfl)) : Ev C ρ (.Subscript e i p) (.b (.int n)) :=
  Ev.sub_ h1 h2 fun s u v Q r1 r2 hQ => by
    obtain ⟨a, us, rfl, pl, ia⟩ := r1; obtain ⟨t, rfl⟩ := r2
    obtain ⟨t', hv⟩ := ia.get _ _ hx
    exact tail_any pl.isList.typeIs slot_list_getitem.lookup (wpAny_getItem_list pl.isList h0 (by omega) (by simpa using hv) (hQ _ _ Kp.rfl' ⟨_, rfl⟩)) (hs a t)
theorem Ev.idxR {e i : Expr} {p : Pos} {xs : List (List Int)} {k : Int} {n : List Int} (h1 : Ev C ρ e (.b (.zss xs))) (h2 : Ev C ρ i (.b (.int k))) (h0 : 0 ≤ k) (hk : k < 1000000) (hx : xs[k.toNat]? = some n)
    (hs : ∀ a t, subscripted i false (.ref a) (.int k t) = operate [.ref a, .int k t] (getItem (.ref a) (.int k t)) := by with_unfolding_all (intro _ _; rfl)) : Ev C ρ (.Subscript e i p) (.b (.zs n)) :=
  Ev.sub_ h1 h2 fun s u v Q r1 r2 hQ => by
    obtain ⟨a, us, rfl, pl, ia⟩ := r1; obtain ⟨t, rfl⟩ := r2
    obtain ⟨v', hv, rv⟩ := ia.get _ _ hx
    exact tail_any pl.isList.typeIs slot_list_getitem.lookup (wpAny_getItem_list pl.isList h0 (by omega) (by simpa using hv) (hQ _ _ Kp.rfl' rv)) (hs a t)
theorem last_at {α : Type} {xs : List α} {n : α} (h : xs.getLast? = some n) : 0 < xs.length ∧ xs[(-1 + (xs.length : Int)).toNat]? = some n := by
  have h0 : xs ≠ [] := by rintro rfl; simp at h
  have h1 : 0 < xs.length := List.length_pos_iff.mpr h0
  refine ⟨h1, ?_⟩
  rw [List.getLast?_eq_getElem?] at h
  rw [show (-1 + (xs.length : Int)).toNat = xs.length - 1 by omega]; exact h
theorem Ev.last {e i : Expr} {p : Pos} {xs : List Int} {n : Int} (h1 : Ev C ρ e (.b (.zs xs))) (h2 : Ev C ρ i (.b (.int (-1)))) (hx : xs.getLast? = some n)
    (hs : ∀ a t, subscripted i false (.ref a) (.int (-1) t) = operate [.ref a, .int (-1) t] (getItem (.ref a) (.int (-1) t)) := by with_unfolding_all (intro _ _; rfl)) : Ev C ρ (.Subscript e i p) (.b (.int n)) :=
  Ev.sub_ h1 h2 fun s u v Q r1 r2 hQ => by
    obtain ⟨a, us, rfl, pl, ia⟩ := r1; obtain ⟨t, rfl⟩ := r2
    obtain ⟨hp, hx⟩ := last_at hx
    obtain ⟨t', hv⟩ := ia.get _ _ hx
    exact tail_any pl.isList.typeIs slot_list_getitem.lookup (wpAny_getItem_list_neg pl.isList (by decide) (by rw [List.size_toArray, ia.length]; omega) (by decide) (by rw [List.size_toArray, ia.length]; simpa using hv) (hQ _ _ Kp.rfl' ⟨_, rfl⟩)) (hs a t)
theorem Ev.lastR {e i : Expr} {p : Pos} {xs : List (List Int)} {n : List Int} (h1 : Ev C ρ e (.b (.zss xs))) (h2 : Ev C ρ i (.b (.int (-1)))) (hx : xs.getLast? = some n)
    (hs : ∀ a t, subscripted i false (.ref a) (.int (-1) t) = operate [.ref a, .int (-1) t] (getItem (.ref a) (.int (-1) t)) := by with_unfolding_all (intro _ _; rfl)) : Ev C ρ (.Subscript e i p) (.b (.zs n)) :=
  Ev.sub_ h1 h2 fun s u v Q r1 r2 hQ => by
    obtain ⟨a, us, rfl, pl, ia⟩ := r1; obtain ⟨t, rfl⟩ := r2
    obtain ⟨hp, hx⟩ := last_at hx
    obtain ⟨v', hv, rv⟩ := ia.get _ _ hx
    exact tail_any pl.isList.typeIs slot_list_getitem.lookup (wpAny_getItem_list_neg pl.isList (by decide) (by rw [List.size_toArray, ia.length]; omega) (by decide) (by rw [List.size_toArray, ia.length]; simpa using hv) (hQ _ _ Kp.rfl' rv)) (hs a t)
theorem seqIdx {k : Int} {n : Nat} (h0 : 0 ≤ k) (h1 : k < n) : seqIndex? k n = some k.toNat := by
  unfold seqIndex?
  simp only [show ¬ k < 0 by omega, if_false]
  rw [if_pos (by simp; omega)]
theorem Ev.idxT {e i : Expr} {p : Pos} {as : List A0} {k : Int} {n : A0} (h1 : Ev C ρ e (.tup as)) (h2 : Ev C ρ i (.b (.int k))) (h0 : 0 ≤ k) (hk : k < 1000000) (hx : as[k.toNat]? = some n)
    (hs : ∀ a t, subscripted i false (.ref a) (.int k t) = operate [.ref a, .int k t] (getItem (.ref a) (.int k t)) := by with_unfolding_all (intro _ _; rfl)) : Ev C ρ (.Subscript e i p) (.b n) :=
  Ev.sub_ h1 h2 fun s u v Q r1 r2 hQ => by
    obtain ⟨a, us, rfl, ht, ia⟩ := r1; obtain ⟨t, rfl⟩ := r2
    obtain ⟨v', hv, rv⟩ := ia.get _ _ hx
    have hl : k < us.length := by
      have := (List.getElem?_eq_some_iff.mp hv).1; omega
    exact tail_any (IsTup.typeIs ht) slot_tuple_getitem.lookup (getItem_tuple ht (by omega) (by omega) (by rw [List.size_toArray]; exact seqIdx h0 hl) (by simpa using hv) (hQ _ _ Kp.rfl' rv)) (hs a t)

/-! slices -/
noncomputable def Pt (C : Act) (ρ : Loc) (e : Option Expr) (k : Option Int) : Prop := match e, k with
  | .none, .none => True
  | some e, some k => Ev C ρ e (.b (.int k))
  | _, _ => False
theorem Pt.run {e : Option Expr} {k : Option Int} {s : Shared} {Q : Value → Shared → Prop} (h : Pt C ρ e k) (hs : Sat C ρ s) (hQ : ∀ v s', Kp s s' → IsPart v k → Q v s') : wpAny (model pg C.w) C.A (evalPart e C.env) Q nE s := by
  cases e with
  | none =>
    cases k with
    | none => rw [evalPart_none]; exact wpAny_pure (hQ _ _ Kp.rfl' .none)
    | some k => exact h.elim
  | some e =>
    cases k with
    | none => exact h.elim
    | some k => exact wpAny_evalPart_some (h s _ hs fun v s1 k1 r1 => by obtain ⟨t, rfl⟩ := r1; exact hQ _ s1 k1 (.int k t))
theorem Ev.slice {e : Expr} {lo up : Option Expr} {p q : Pos} {xs : List Int} {a b : Option Int} (h1 : Ev C ρ e (.b (.zs xs))) (h2 : Pt C ρ lo a) (h3 : Pt C ρ up b) (hz : xs.length ≤ 1000000) : Ev C ρ (.Subscript e (.Slice lo up .none p) q) (.b (.zs (pickNums xs a b .none))) := by
  intro s Q hS hQ
  refine Subscript_ (h1 s _ hS fun u s1 k1 r1 => ?_)
  refine wpAny_Slice (h2.run (hS.keeps k1) fun v2 s2 k2 p2 => h3.run ((hS.keeps k1).keeps k2) fun v3 s3 k3 p3 => ?_)
  rw [evalPart_none]
  refine wpAny_pure ?_
  obtain ⟨l, us, rfl, pl, ia⟩ := (r1.ks k2.ks).ks k3.ks
  refine tail_any (Heap.IsList.typeIs (s := { s3 with heap := s3.heap.push { cls := .type "slice", data := .fields #[v2, v3, .none] } }) (pl.isList.push _)) list_getitem_lookup (wpAny_getItem_list_slice (pl.isList.push _) (Heap.IsSliceOf.new ..) p2 p3 .none (by simp) ?_ (by rw [List.size_toArray, ia.length]; exact sizeL hz)) (ops := [.ref s3.heap.objs.size, .ref l]) rfl
  refine hQ _ _ (((k1.trans k2).trans k3).trans ((Kp.push _ s3.toks).trans (Kp.push _ _))) ⟨_, (slicePick us.toArray a b .none).toList, rfl, ⟨0, ?_⟩, ia.pick a b .none⟩
  exact Heap.get?_push_size _ rfl
theorem pick_list {α : Type} (xs : List α) (a k : Nat) : ((List.range k).map (a + ·)).filterMap (xs[·]?) = (xs.drop a).take k := by
  have := pick_run xs.toArray a k
  simpa using this
theorem pickNums_to (xs : List Int) (b : Nat) : pickNums xs .none (some (b : Int)) .none = xs.take b := by
  have e : sliceBounds .none (some (b : Int)) .none xs.length = (((0 : Nat) : Int), ((min b xs.length : Nat) : Int), 1) := by
    simp only [sliceBounds, Option.getD_none]
    have h2 : ¬ ((b : Int) < 0) := by omega
    simp only [h2, if_false, show (1 : Int) > 0 by decide, if_true]
    congr 1
    congr 1; omega
  unfold pickNums
  rw [e]
  simp only [sliceRange_one, pick_list, List.drop_zero, Nat.sub_zero]
  rw [Nat.min_def]
  split
  · rfl
  · rw [List.take_length, List.take_of_length_le (by omega)]
theorem pickNums_from (xs : List Int) (a : Nat) : pickNums xs (some (a : Int)) .none .none = xs.drop a := by
  have e : sliceBounds (some (a : Int)) .none .none xs.length = (((min a xs.length : Nat) : Int), (xs.length : Int), 1) := by
    simp only [sliceBounds, Option.getD_none]
    have h2 : ¬ ((a : Int) < 0) := by omega
    simp only [h2, if_false, show (1 : Int) > 0 by decide, if_true]
    congr 1; omega
  unfold pickNums
  rw [e]
  simp only [sliceRange_one, pick_list]
  rw [List.take_of_length_le (by simp), Nat.min_def]
  split
  · rfl
  · rw [List.drop_length, List.drop_of_length_le (by omega)]
theorem pickNums_run (xs : List Int) (a b : Nat) : pickNums xs (some (a : Int)) (some (b : Int)) .none = (xs.take b).drop a := by
  have e : sliceBounds (some (a : Int)) (some (b : Int)) .none xs.length = (((min a xs.length : Nat) : Int), ((min b xs.length : Nat) : Int), 1) := by
    simp only [sliceBounds, Option.getD_none]
    have h1 : ¬ ((a : Int) < 0) := by omega
    have h2 : ¬ ((b : Int) < 0) := by omega
    simp only [h1, h2, if_false, show (1 : Int) > 0 by decide, if_true]
    congr 1
    · omega
    · congr 1; omega
  unfold pickNums
  rw [e]
  simp only [sliceRange_one, pick_list]
  rw [List.drop_take]
  rcases Nat.le_total a xs.length with h | h
  · rw [Nat.min_eq_left h]
    rcases Nat.le_total b xs.length with h' | h'
    · rw [Nat.min_eq_left h']
    · rw [Nat.min_eq_right h', List.take_of_length_le (by simp), List.take_of_length_le (by simp; omega)]
  · rw [Nat.min_eq_right h, List.drop_length, List.drop_of_length_le h]; simp
theorem Ev.sliceTo {e k : Expr} {p q : Pos} {xs : List Int} {b : Int} (h1 : Ev C ρ e (.b (.zs xs))) (h3 : Ev C ρ k (.b (.int b))) (hb : 0 ≤ b) (hz : xs.length ≤ 1000000) : Ev C ρ (.Subscript e (.Slice .none (some k) .none p) q) (.b (.zs (xs.take b.toNat))) := by
  have := Ev.slice (p := p) (q := q) (lo := .none) (up := some k) (a := .none) (b := some b) h1 trivial h3 hz
  rw [show b = ((b.toNat : Nat) : Int) by omega, pickNums_to] at this
  exact this
theorem Ev.sliceFrom {e k : Expr} {p q : Pos} {xs : List Int} {b : Int} (h1 : Ev C ρ e (.b (.zs xs))) (h3 : Ev C ρ k (.b (.int b))) (hb : 0 ≤ b) (hz : xs.length ≤ 1000000) : Ev C ρ (.Subscript e (.Slice (some k) .none .none p) q) (.b (.zs (xs.drop b.toNat))) := by
  have := Ev.slice (p := p) (q := q) (lo := some k) (up := .none) (a := some b) (b := .none) h1 h3 trivial hz
  rw [show b = ((b.toNat : Nat) : Int) by omega, pickNums_from] at this
  exact this
theorem Ev.sliceRun {e j k : Expr} {p q : Pos} {xs : List Int} {a b : Int} (h1 : Ev C ρ e (.b (.zs xs))) (h2 : Ev C ρ j (.b (.int a))) (h3 : Ev C ρ k (.b (.int b))) (ha : 0 ≤ a) (hb : 0 ≤ b) (hz : xs.length ≤ 1000000) : Ev C ρ (.Subscript e (.Slice (some j) (some k) .none p) q) (.b (.zs ((xs.take b.toNat).drop a.toNat))) := by
  have := Ev.slice (p := p) (q := q) (lo := some j) (up := some k) (a := some a) (b := some b) h1 h2 h3 hz
  rw [show b = ((b.toNat : Nat) : Int) by omega, show a = ((a.toNat : Nat) : Int) by omega, pickNums_run] at this
  exact this
end
end Mine
end

section
namespace Mine
open PySem PySem.W PySem.Calls PyProof.Rows

section
variable {C : Act} {ρ : Loc}

noncomputable def Sub (ρ' ρ : Loc) : Prop := ∀ y a, ρ'.lookup y = some a → ρ.lookup y = some a
theorem Sub.rfl' : Sub ρ ρ := fun _ _ e => e
theorem Sub.cons {ρ' : Loc} {x : Str} {a : AV} (h : Sub ρ' ρ) : Sub ((x, a) :: ρ') ((x, a) :: ρ) := fun y b e => by
  rw [List.lookup_cons] at e ⊢
  cases hb : y == x with
  | true => rw [hb] at e; exact e
  | false => rw [hb] at e; exact h y b e
noncomputable def AllIn : Loc → Loc → Prop
  | [], _ => True
  | q :: r, ρ => ρ.lookup q.1 = some q.2 ∧ AllIn r ρ
theorem AllIn.mem {ρ : Loc} : ∀ {r : Loc}, AllIn r ρ → ∀ q ∈ r, ρ.lookup q.1 = some q.2
  | _ :: _, h, _, .head _ => h.1
  | _ :: _, h, _, .tail _ m => AllIn.mem h.2 _ m
theorem Sub.of {ρ' : Loc} (h : AllIn ρ' ρ) : Sub ρ' ρ := fun y a e => h.mem (y, a) (mem_of_lookup e)
/-- a name of the frame that can be stored -/
noncomputable def Kd (C : Act) (x : Str) : Prop := C.env.kindOf x = some .local ∨ (C.env.kindOf x = some .cell ∧ (C.env.cells.lookup x).isSome = true)

theorem names_inj : ∀ {l : List (Str × Addr)}, (l.map (·.1)).Nodup → ∀ {n : Str} {c c' : Addr}, (n, c) ∈ l → (n, c') ∈ l → c = c'
  | x :: r, hp, n, c, c', h, h' => by
    obtain ⟨h1, h2⟩ := List.nodup_cons.mp hp
    rcases List.mem_cons.mp h with e | h <;> rcases List.mem_cons.mp h' with e' | h'
    · rw [← e'] at e; exact (Prod.mk.inj e).2
    · exact absurd (List.mem_map.mpr ⟨_, h', by rw [← e]⟩) h1
    · exact absurd (List.mem_map.mpr ⟨_, h, by rw [← e']⟩) h1
    · exact names_inj h2 h h'

theorem store_ {x : Str} {v : Value} {a : AV} {s : Shared} {Q : Unit → Shared → Prop} (hs : Sat C ρ s) (r : Rep s.heap v a) (hk : Kd C x)
    (h : ∀ s', Sat C ((x, a) :: ρ) s' → Kf C s s' → Q () s') : wpAny (model pg C.w) C.A (storeName C.env x v) Q nE s := by
  obtain ⟨m, cm, hn, hc, hr⟩ := id hs.ex
  obtain ⟨g, tk, hsame⟩ := id hs.same
  have hLc : ∀ y ∈ C.env.cells, y.2 ≠ C.env.locals := fun y hy q => by
    obtain ⟨oL, es, ep, hL, hd, _⟩ := hn
    obtain ⟨oc, ho, hd'⟩ := hc y hy
    rw [q] at ho; have := ho.symm.trans hL; cases this; rw [hd] at hd'; cases hd'
  rcases hk with hk | ⟨hk, hcl⟩
  · refine wpAny_storeName_local hk hn (fun h' hn' hs' => ?_) (by rw [hs.ok.kind]; rfl)
    have kf : Kf C s { s with heap := h', toks := s.toks + 1 } := ⟨⟨_, _, rfl⟩, fun b o n1 _ e => hs'.extBut b o n1 e⟩
    refine h _ ⟨hs.ok, ⟨h', s.toks + 1, by rw [hsame]⟩, fun b o e => hs'.extBut b o (fun q => ?_) (hs.keep b o e), _, cm, hn', fun y hy => (hc y hy).sameBut hs' (hLc y hy), fun y b e => ?_⟩ kf
    · have := hs.ok.newL; rw [← q, e] at this; cases this
    · rw [List.lookup_cons] at e
      by_cases hy : y = x
      · subst hy
        rw [beq_self_eq_true] at e; cases e
        exact ⟨v, by unfold look; rw [if_pos hk]; simp, r.ks (hs.ks kf)⟩
      · rw [beq_eq_false_iff_ne.mpr hy] at e
        obtain ⟨u, e1, r1⟩ := hr y b e
        refine ⟨u, ?_, r1.ks (hs.ks kf)⟩
        unfold look at e1 ⊢
        by_cases hky : C.env.kindOf y = some .local
        · rw [if_pos hky] at e1 ⊢; simpa [hy] using e1
        · rw [if_neg hky] at e1 ⊢; exact e1
  · obtain ⟨c, hcl⟩ := Option.isSome_iff_exists.mp hcl
    have hm := mem_of_lookup hcl
    refine wpAny_storeName_cell hs.ok.kind hk hcl (hc _ hm) fun h' hc' hs' => ?_
    have kf : Kf C s { s with heap := h' } := ⟨⟨_, s.toks, rfl⟩, fun b o _ n2 e => hs'.extBut b o (fun q => n2 _ hm q.symm) e⟩
    refine h _ ⟨hs.ok, ⟨h', s.toks, by rw [hsame]⟩, fun b o e => hs'.extBut b o (fun q => ?_) (hs.keep b o e), m, (fun y => if y = x then some v else cm y), hn.sameBut hs' (fun q => hLc _ hm q.symm), fun y hy => ?_, fun y b e => ?_⟩ kf
    · have := hs.ok.newC _ hm; rw [← q, e] at this; cases this
    · by_cases hyc : y.2 = c
      · have : y = (x, c) := by
          obtain ⟨y1, y2⟩ := y
          cases hyc
          rw [name_of_addr hs.ok.apart hy hm]
        subst this
        simpa using hc'
      · have hne : y.1 ≠ x := fun q => hyc (by
          obtain ⟨y1, y2⟩ := y
          cases q
          exact names_inj hs.ok.names hy hm)
        simp only [if_neg hne]
        exact (hc y hy).sameBut hs' hyc
    · have hnl : ¬ C.env.kindOf x = some .local := by rw [hk]; decide
      rw [List.lookup_cons] at e
      by_cases hy : y = x
      · subst hy
        rw [beq_self_eq_true] at e; cases e
        exact ⟨v, by unfold look; rw [if_neg hnl]; simp, r.ks (hs.ks kf)⟩
      · rw [beq_eq_false_iff_ne.mpr hy] at e
        obtain ⟨u, e1, r1⟩ := hr y b e
        refine ⟨u, ?_, r1.ks (hs.ks kf)⟩
        unfold look at e1 ⊢
        by_cases hky : C.env.kindOf y = some .local
        · rw [if_pos hky] at e1 ⊢; exact e1
        · rw [if_neg hky] at e1 ⊢; simpa [hy] using e1

noncomputable def zipR : List Str → List AV → Loc → Loc
  | x :: xs, a :: as, ρ => zipR xs as ((x, a) :: ρ)
  | _, _, ρ => ρ
theorem stores_ {ts : List (Value → Sem Unit)} : ∀ {xs : List Str} {vs : List Value} {as : List AV} {ρ : Loc} {s : Shared} {Q : Unit → Shared → Prop}, Sat C ρ s → All2 (Rep s.heap) vs as → All2 (fun t x => ∀ v s (Q : Unit → Shared → Prop), wpAny (model pg C.w) C.A (storeName C.env x v) Q nE s → wpAny (model pg C.w) C.A (t v) Q nE s) ts xs →
    (∀ x ∈ xs, Kd C x) → xs.length = as.length → (∀ s', Sat C (zipR xs as ρ) s' → Kf C s s' → Q () s') → wpAny (model pg C.w) C.A (assignInOrder ts vs) Q nE s := by
  induction ts with
  | nil =>
    intro xs vs as ρ s Q hs r ht hk hl h
    cases ht
    cases r with
    | nil => exact wpAny_pure (h s hs Kf.rfl')
    | cons _ _ => simp at hl
  | cons t ts ih =>
    intro xs vs as ρ s Q hs r ht hk hl h
    obtain _ | ⟨h1, h2⟩ := ht
    cases r with
    | nil => simp at hl
    | cons r1 r2 =>
      refine wpAny_assignInOrder_more (h1 _ _ _ (store_ hs r1 (hk _ List.mem_cons_self) fun s1 hs1 k1 => ?_))
      exact ih hs1 (r2.mono fun _ _ r => r.ks (hs.ks k1)) h2 (fun y hy => hk y (List.mem_cons_of_mem _ hy)) (by simpa using hl) fun s2 hs2 k2 => h s2 hs2 (k1.trans k2)

/-! statements -/
theorem Ex.nil {K : Out → Prop} (h : K (.next ρ)) : Ex C ρ [] K := fun s Q hs hQ => wpAny_execs_nil (hQ _ _ _ h Kf.rfl' ⟨rfl, hs⟩)
theorem Ex.cons {st : Stmt} {rest : List Stmt} {K₁ K : Out → Prop} (h1 : Ex1 C ρ st K₁) (h2 : ∀ ρ', K₁ (.next ρ') → Ex C ρ' rest K) (h3 : ∀ a, K₁ (.ret a) → K (.ret a)) : Ex C ρ (st :: rest) K := by
  intro s Q hs hQ
  refine wpAny_execs_cons (h1 s _ hs fun o fl s1 hK k1 ho => ?_)
  cases o with
  | next ρ' =>
    obtain ⟨rfl, hs1⟩ := ho
    exact h2 ρ' hK s1 _ hs1 fun o fl s2 hK2 k2 ho2 => hQ o fl s2 hK2 (k1.trans k2) ho2
  | ret a =>
    obtain ⟨v, rfl, h4, r⟩ := ho
    exact hQ (.ret a) _ s1 (h3 a hK) k1 ⟨v, rfl, h4, r⟩
theorem Ex1.mono {st : Stmt} {K K' : Out → Prop} (h : Ex1 C ρ st K) (hK : ∀ o, K o → K' o) : Ex1 C ρ st K' := fun s Q hs hQ => h s Q hs fun o fl s' k => hQ o fl s' (hK o k)
theorem Ex.mono {ss : List Stmt} {K K' : Out → Prop} (h : Ex C ρ ss K) (hK : ∀ o, K o → K' o) : Ex C ρ ss K' := fun s Q hs hQ => h s Q hs fun o fl s' k => hQ o fl s' (hK o k)
theorem Ex.sub {ρ' : Loc} {ss : List Stmt} {K : Out → Prop} (h : Ex C ρ' ss K) (hs : Sub ρ' ρ) : Ex C ρ ss K := fun s Q hS hQ => h s Q (hS.weaken hs) hQ
/-- the plain next step -/
theorem Ex.step {st : Stmt} {rest : List Stmt} {ρ' : Loc} {K : Out → Prop} (h1 : Ex1 C ρ st (fun o => o = .next ρ')) (h2 : Ex C ρ' rest K) : Ex C ρ (st :: rest) K :=
  Ex.cons h1 (fun ρ'' e => by cases e; exact h2) fun a e => by cases e
theorem Ex.ret {e : Expr} {p : Pos} {rest : List Stmt} {a : AV} {K : Out → Prop} (h : Ev C ρ e a) (hK : K (.ret a)) : Ex C ρ (.Return (some e) p :: rest) K := fun s Q hs hQ =>
  wpAny_execs_cons (wpAny_Return_some (h s _ hs fun v s1 k1 r1 => hQ (.ret a) _ s1 hK k1.kf ⟨v, rfl, ⟨ρ, hs.keeps k1⟩, r1⟩))
theorem Ex1.assign {x : Str} {p q : Pos} {e : Expr} {a : AV} (h : Ev C ρ e a) (hk : Kd C x := by first | exact Or.inl rfl | exact Or.inr ⟨rfl, rfl⟩) (hsw : swapsWith e (some (.Name x p)) q.line C.env = pure false := by rfl) :
    Ex1 C ρ (.Assign [.Name x p] e q) (fun o => o = .next ((x, a) :: ρ)) := fun s Q hs hQ =>
  wpAny_Assign_Name (h s _ hs fun v s1 k1 r1 => store_ (hs.keeps k1) r1 hk fun s2 hs2 k2 => hQ _ _ s2 rfl (k1.kf.trans k2) ⟨rfl, hs2⟩) hsw
theorem Ex1.aug {x : Str} {p q : Pos} {e : Expr} {a b c : Int} {op : Operator} (hρ : ρ.lookup x = some (.b (.int a))) (h : Ev C ρ e (.b (.int b))) (hk : Kd C x)
    (hop : ∀ s t u (Q : Value → Shared → Prop), (∀ v s', Kp s s' → RI v c → Q v s') → wpAny (model pg C.w) C.A (inplaceOp op (.int a t) (.int b u)) Q nE s) :
    Ex1 C ρ (.AugAssign (.Name x p) op e q) (fun o => o = .next ((x, .b (.int c)) :: ρ)) := by
  intro s Q hs hQ
  refine wpAny_AugAssign_Name ?_
  have hl : ∀ (Q' : Value → Shared → Prop), (∀ v, RI v a → Q' v s) → wpAny (model pg C.w) C.A (loadName C.env x) Q' nE s := by
    intro Q' h'
    obtain ⟨m, cm, hn, hc, hr⟩ := hs.ex
    obtain ⟨v, e1, r1⟩ := hr x _ hρ
    rcases hk with hk | ⟨hk, hcl⟩
    · unfold look at e1; rw [if_pos hk] at e1
      exact wpAny_loadName_local hs.ok.kind hk hn e1 (h' v r1)
    · obtain ⟨c, hcl⟩ := Option.isSome_iff_exists.mp hcl
      unfold look at e1; rw [if_neg (by rw [hk]; decide)] at e1
      exact wpAny_loadName_cell hs.ok.kind hk hcl (e1 ▸ hc (x, c) (mem_of_lookup hcl)) (h' v r1)
  refine hl _ fun v r => ?_
  obtain ⟨t, rfl⟩ := r
  refine h s _ hs fun u s1 k1 r1 => ?_
  obtain ⟨t', rfl⟩ := r1
  exact hop s1 t t' _ fun v' s2 k2 r2 => store_ (a := .b (.int c)) ((hs.keeps k1).keeps k2) r2 hk fun s3 hs3 k3 => hQ _ _ s3 rfl ((k1.kf.trans k2.kf).trans k3) ⟨rfl, hs3⟩
theorem Ex1.augSub {x : Str} {p q : Pos} {e : Expr} {a b : Int} (h : Ev C ρ e (.b (.int b))) (hρ : ρ.lookup x = some (.b (.int a)) := by rfl) (hk : Kd C x := by first | exact Or.inl rfl | exact Or.inr ⟨rfl, rfl⟩) :
    Ex1 C ρ (.AugAssign (.Name x p) .Sub e q) (fun o => o = .next ((x, .b (.int (a - b))) :: ρ)) := Ex1.aug hρ h hk fun s t u Q hQ => PyProof.Rows.isub_int (hQ _ _ (Kp.tok _) ⟨_, rfl⟩)
theorem Ex1.augAdd {x : Str} {p q : Pos} {e : Expr} {a b : Int} (h : Ev C ρ e (.b (.int b))) (hρ : ρ.lookup x = some (.b (.int a)) := by rfl) (hk : Kd C x := by first | exact Or.inl rfl | exact Or.inr ⟨rfl, rfl⟩) :
    Ex1 C ρ (.AugAssign (.Name x p) .Add e q) (fun o => o = .next ((x, .b (.int (a + b))) :: ρ)) := Ex1.aug hρ h hk fun s t u Q hQ => wpAny_iadd_int (hQ _ _ (Kp.tok _) ⟨_, rfl⟩)
theorem Ex1.ite {t : Expr} {x y : List Stmt} {p : Pos} {b : Bool} {K : Out → Prop} (h : Tr C ρ t b) (h1 : b = true → Ex C ρ x K) (h2 : b = false → Ex C ρ y K) : Ex1 C ρ (.If t x y p) K := by
  intro s Q hs hQ
  refine wpAny_If (h s _ hs fun s1 k1 => ?_)
  cases hb : b with
  | true => simp only [if_true]; exact h1 hb s1 _ (hs.keeps k1) fun o fl s2 hK k2 ho => hQ o fl s2 hK (k1.kf.trans k2) ho
  | false => simp only [Bool.false_eq_true, if_false]; exact h2 hb s1 _ (hs.keeps k1) fun o fl s2 hK k2 ho => hQ o fl s2 hK (k1.kf.trans k2) ho
/-- an if that leaves, or goes on -/
theorem Ex.ifelse {t : Expr} {x y rest : List Stmt} {p : Pos} {b : Bool} {K : Out → Prop} (h : Tr C ρ t b) (h1 : b = true → Ex C ρ x (fun o => match o with | .next ρ' => Ex C ρ' rest K | .ret a => K (.ret a)))
    (h2 : b = false → Ex C ρ y (fun o => match o with | .next ρ' => Ex C ρ' rest K | .ret a => K (.ret a))) : Ex C ρ (.If t x y p :: rest) K :=
  Ex.cons (Ex1.ite h h1 h2) (fun ρ' h => h) fun a h => h
/-- a call for its effect, none -/
theorem Ex1.exprNone {e : Expr} {p : Pos} (h : Ev C ρ e (.b .none)) (hi : interactive C.env = false := by rfl) (hsw : swapsWith e none p.line C.env = pure false := by rfl) : Ex1 C ρ (.Expr e p) (fun o => o = .next ρ) := fun s Q hs hQ =>
  wpAny_Expr (h s _ hs fun v s1 k1 r1 => by cases r1; exact hQ _ _ s1 rfl k1.kf ⟨rfl, hs.keeps k1⟩) hi hsw
end
end Mine
end

section
namespace Mine
open PySem PySem.W PySem.Calls PyProof.Rows

section
variable {C : Act} {ρ : Loc}

/-! tuples unpacked -/
noncomputable def IsNames (C : Act) (elts : List Expr) (xs : List Str) : Prop := (assignEach elts C.env).findIdx? (·.1) = none ∧ All2 (fun t x => ∀ v s (Q : Unit → Shared → Prop), wpAny (model pg C.w) C.A (storeName C.env x v) Q nE s → wpAny (model pg C.w) C.A (t v) Q nE s) ((assignEach elts C.env).map (·.2)) xs
theorem target_name {x : Str} {p : Pos} : ∀ v s (Q : Unit → Shared → Prop), wpAny (model pg C.w) C.A (storeName C.env x v) Q nE s → wpAny (model pg C.w) C.A (assign (.Name x p) C.env v) Q nE s := fun v s Q h => assign_Name h
theorem target_bind {x : Str} : ∀ v s (Q : Unit → Shared → Prop), wpAny (model pg C.w) C.A (storeName C.env x v) Q nE s → wpAny (model pg C.w) C.A (bindName C.env x v) Q nE s := fun v s Q h => bindName_ h
theorem isNames2 {x y : Str} {p q : Pos} : IsNames C [.Name x p, .Name y q] [x, y] := ⟨rfl, .cons target_name (.cons target_name .nil)⟩
theorem isNames3 {x y z : Str} {p q r : Pos} : IsNames C [.Name x p, .Name y q, .Name z r] [x, y, z] := ⟨rfl, .cons target_name (.cons target_name (.cons target_name .nil))⟩
theorem isNames4 {x y z u : Str} {p q r p' : Pos} : IsNames C [.Name x p, .Name y q, .Name z r, .Name u p'] [x, y, z, u] := ⟨rfl, .cons target_name (.cons target_name (.cons target_name (.cons target_name .nil)))⟩
theorem isNames5 {x y z u v : Str} {p q r p' q' : Pos} : IsNames C [.Name x p, .Name y q, .Name z r, .Name u p', .Name v q'] [x, y, z, u, v] := ⟨rfl, .cons target_name (.cons target_name (.cons target_name (.cons target_name (.cons target_name .nil))))⟩
theorem all2_up {h : Heap} : ∀ {vs : List Value} {as : List A0}, All2 (R0 h) vs as → All2 (Rep h) vs (as.map .b)
  | _, _, .nil => .nil
  | _, _, .cons r t => .cons r (all2_up t)
theorem kp_ext {s : Shared} {h' : Heap} (e : Heap.ExtBut s.heap.objs.size s.heap h') : Kp s { s with heap := h' } := ⟨h', s.toks, rfl, fun b o x => e b o (Nat.ne_of_lt (Heap.lt_size x)) x⟩

theorem Ex1.assignT {elts : List Expr} {k : Nat} {tp q : Pos} {e : Expr} {xs : List Str} {as : List A0} (h : Ev C ρ e (.tup as)) (hx : IsNames C elts xs) (hk : ∀ x ∈ xs, Kd C x) (hl : xs.length = as.length)
    (hs : swapsWithSole [.Tuple elts k tp] e q.line C.env = pure false := by rfl) (hw : swappedStores [.Tuple elts k tp] e C.env = pure none := by rfl) :
    Ex1 C ρ (.Assign [.Tuple elts k tp] e q) (fun o => o = .next (zipR xs (as.map .b) ρ)) := by
  intro s Q hS hQ
  refine Assign_Tuple (h s _ hS fun v s1 k1 r1 => ?_) hs hw
  obtain ⟨a, vs, rfl, ht, i⟩ := r1
  have hlen : (assignEach elts C.env).length = vs.toArray.size := by
    have := hx.2.length; rw [List.length_map] at this; rw [this, List.size_toArray, i.length, hl]
  refine wpAny_assign_Tuple hS.ok.handled ht hlen hx.1 fun h' he => ?_
  have k2 := kp_ext he
  refine stores_ ((hS.keeps k1).keeps k2) ((all2_up i).mono fun _ _ r => r.ks k2.ks) hx.2 hk (by simpa using hl) fun s3 hs3 k3 => hQ _ _ s3 rfl ((k1.trans k2).kf.trans k3) ⟨rfl, hs3⟩
theorem all2_rev {α β : Type} {R : α → β → Prop} : ∀ {l : List α} {l' : List β}, All2 R l l' → All2 R l.reverse l'.reverse
  | _, _, .nil => .nil
  | _, _, .cons h t => by simp only [List.reverse_cons]; exact (all2_rev t).snoc h
theorem Ex1.assignTs {elts : List Expr} {k : Nat} {tp q : Pos} {e : Expr} {xs : List Str} {as : List A0} (h : Ev C ρ e (.tup as)) (hk : ∀ x ∈ xs, Kd C x) (hl : xs.length = as.length)
    (hs : swapsWithSole [.Tuple elts k tp] e q.line C.env = pure false := by rfl) (hw : swappedStores [.Tuple elts k tp] e C.env = pure (some xs) := by rfl) :
    Ex1 C ρ (.Assign [.Tuple elts k tp] e q) (fun o => o = .next (zipR xs.reverse (as.map .b).reverse ρ)) := by
  intro s Q hS hQ
  refine Assign_Tuple_swapped (h s _ hS fun v s1 k1 r1 => ?_) hs hw
  obtain ⟨a, vs, rfl, ht, i⟩ := r1
  have hlen : xs.length = vs.toArray.size := by rw [List.size_toArray, i.length, hl]
  rw [hlen]
  refine unpackItems_tuple hS.ok.handled ht fun h' he => ?_
  have k2 := kp_ext he
  have ht : All2 (fun t x => ∀ v s (Q : Unit → Shared → Prop), wpAny (model pg C.w) C.A (storeName C.env x v) Q nE s → wpAny (model pg C.w) C.A (t v) Q nE s) (xs.reverse.map fun n => bindName C.env n) xs.reverse := by
    generalize xs.reverse = ys
    induction ys with
    | nil => exact .nil
    | cons y ys ih => exact .cons target_bind ih
  refine stores_ ((hS.keeps k1).keeps k2) (all2_rev ((all2_up i).mono fun _ _ r => r.ks k2.ks)) ht (fun x hx => hk x (List.mem_reverse.mp hx)) (by simpa using hl) fun s3 hs3 k3 => hQ _ _ s3 rfl ((k1.trans k2).kf.trans k3) ⟨rfl, hs3⟩
theorem all2_of_ints {h : Heap} : ∀ {vs : List Value} {xs : List Int}, IntsAre vs xs → All2 (Rep h) vs (xs.map fun n => .b (.int n))
  | _, _, .nil => .nil
  | _, _, .cons n t r => .cons ⟨t, rfl⟩ (all2_of_ints r)
/-- a list of ints unpacked -/
theorem Ex1.assignL {elts : List Expr} {k : Nat} {tp q : Pos} {e : Expr} {xs : List Str} {ns : List Int} (h : Ev C ρ e (.b (.zs ns))) (hx : IsNames C elts xs) (hk : ∀ x ∈ xs, Kd C x) (hl : xs.length = ns.length)
    (hs : swapsWithSole [.Tuple elts k tp] e q.line C.env = pure false := by rfl) (hw : swappedStores [.Tuple elts k tp] e C.env = pure none := by rfl) :
    Ex1 C ρ (.Assign [.Tuple elts k tp] e q) (fun o => o = .next (zipR xs (ns.map fun n => .b (.int n)) ρ)) := by
  intro s Q hS hQ
  refine Assign_Tuple (h s _ hS fun v s1 k1 r1 => ?_) hs hw
  obtain ⟨a, vs, rfl, ht, i⟩ := r1
  have hlen : (assignEach elts C.env).length = vs.toArray.size := by
    have := hx.2.length; rw [List.length_map] at this; rw [this, List.size_toArray, i.length, hl]
  rw [arm_assign_Tuple]
  refine wpAny_bind (wpAny_standAt ?_)
  unfold unpack
  rw [hlen, hx.1]
  refine wpAny_bind (wpAny_holding (kun_itemsOf hS.ok.handled ht.isList fun h' he => ?_))
  have k2 := kp_ext he
  refine stores_ ((hS.keeps k1).keeps k2) (all2_of_ints i) hx.2 hk (by simpa using hl) fun s3 hs3 k3 => hQ _ _ s3 rfl ((k1.trans k2).kf.trans k3) ⟨rfl, hs3⟩

/-! while -/
theorem Ex1.while {σ : Type} {t : Expr} {body : List Stmt} {p : Pos} {K : Out → Prop} (inv : σ → Loc) (P : σ → Prop) (μ : σ → Nat) (b : σ → Bool) (test : ∀ x, P x → Tr C (inv x) t (b x))
    (step : ∀ x, P x → b x = true → Ex C (inv x) body (fun o => match o with | .next ρ' => ∃ x', Sub (inv x') ρ' ∧ P x' ∧ μ x' < μ x | .ret a => K (.ret a)))
    (exit : ∀ x, P x → b x = false → K (.next (inv x))) (x₀ : σ) (h₀ : P x₀) (hρ : Sub (inv x₀) ρ) : Ex1 C ρ (.While t body [] p) K := by
  intro s Q hs hQ
  refine wpAny_While ?_
  refine codeAny_whileLoop (fun n s' => ∃ x, P x ∧ n = μ x ∧ Sat C (inv x) s' ∧ Kf C s s') (fun n s1 hI => ?_) (μ x₀) ⟨x₀, h₀, rfl, hs.weaken hρ, Kf.rfl'⟩
  obtain ⟨x, hP, rfl, hs1, k1⟩ := hI
  refine of_nE (test x hP s1 _ hs1 fun s2 k2 => ?_)
  cases hb : b x with
  | false =>
    simp only [Bool.false_eq_true, if_false]
    exact wpAny_execs_nil (hQ _ _ s2 (exit x hP hb) (k1.trans k2.kf) ⟨rfl, hs1.keeps k2⟩)
  | true =>
    simp only [if_true]
    refine of_nE (step x hP hb s2 _ (hs1.keeps k2) fun o fl s3 hK k3 ho => ?_)
    cases o with
    | next ρ' =>
      obtain ⟨rfl, hs3⟩ := ho
      obtain ⟨x', hsub, hP', hμ⟩ := hK
      exact ⟨μ x', hμ, x', hP', rfl, hs3.weaken hsub, (k1.trans k2.kf).trans k3⟩
    | ret a =>
      obtain ⟨v, rfl, h4, r⟩ := ho
      exact hQ _ _ s3 hK ((k1.trans k2.kf).trans k3) ⟨v, rfl, h4, r⟩

/-! for -/
theorem Sat.bump {wr : List Addr} {s : Shared} {h' : Heap} {tk : Nat} (hs : Sat C ρ s) (hk : ∀ b o, b ∉ wr → s.heap.get? b = some o → h'.get? b = some o)
    (hw : ∀ b ∈ wr, C.s₀.heap.get? b = none ∧ b ≠ C.env.locals ∧ (∀ y ∈ C.env.cells, y.2 ≠ b) ∧ ∀ o, s.heap.get? b = some o → ∀ vs k, o.data ≠ .seq vs k) : Sat C ρ { s with heap := h', toks := tk } := by
  obtain ⟨h, tk', e⟩ := id hs.same
  obtain ⟨m, cm, hn, hc, hr⟩ := id hs.ex
  refine ⟨hs.ok, ⟨h', tk, by rw [e]⟩, fun b o x => hk b o (fun q => ?_) (hs.keep b o x), m, cm, hn.at' fun o x => hk _ o (fun q => (hw _ q).2.1 rfl) x, fun y hy => ?_, fun y a x => ?_⟩
  · rw [(hw b q).1] at x; cases x
  · obtain ⟨oc, ho, hd⟩ := hc y hy
    exact ⟨oc, hk _ _ (fun q => (hw _ q).2.2.1 y hy rfl) ho, hd⟩
  · obtain ⟨v, e1, r⟩ := hr y a x
    exact ⟨v, e1, r.ks fun b o hs e => hk b o (fun q => by obtain ⟨vs, k, hv⟩ := hs; exact (hw b q).2.2.2 o e vs k hv) e⟩
theorem Sat.has {s : Shared} (hs : Sat C ρ s) : (∃ o, s.heap.get? C.env.locals = some o) ∧ ∀ y ∈ C.env.cells, ∃ o, s.heap.get? y.2 = some o := by
  obtain ⟨m, cm, ⟨oL, _, _, hL, _⟩, hc, hr⟩ := hs.ex
  exact ⟨⟨oL, hL⟩, fun y hy => let ⟨o, ho, _⟩ := hc y hy; ⟨o, ho⟩⟩

theorem Sat.off {s : Shared} {a : Addr} {vs : Array Value} {k : Nat} {d : Option Addr} {c : Value} {sl : Array (Option Value)} (hs : Sat C ρ s) (e : s.heap.get? a = some ⟨c, d, .seq vs k, sl⟩) : a ≠ C.env.locals ∧ ∀ y ∈ C.env.cells, y.2 ≠ a := by
  obtain ⟨m, cm, ⟨oL, _, _, hL, hd, _⟩, hcc, _⟩ := hs.ex
  constructor
  · intro q
    rw [q] at e
    have := e.symm.trans hL
    cases this
    cases hd
  · intro y hy q
    obtain ⟨o, ho, hd'⟩ := hcc y hy
    rw [q] at ho
    have := e.symm.trans ho
    cases this
    cases hd'
theorem forCore {x : Str} {px : Pos} {body : List Stmt} {K : Out → Prop} {I : Addr} {fp wr : List Addr} {n : Nat} {P : Nat → Value → Prop} {St : Nat → Heap → Prop} {s s2 : Shared} {Q : Flow → Shared → Prop}
    (W : Walks pg C.w C.A I fp wr n P St) (it : Nat → AV) (inv : Nat → Loc) (hs : Sat C ρ s) (k2 : Kp s s2) (h0 : Sat C (inv 0) s2) (hst : St 0 s2.heap)
    (hfp : ∀ b ∈ fp, b ≠ C.env.locals ∧ ∀ y ∈ C.env.cells, y.2 ≠ b) (hwr : ∀ b ∈ wr, s.heap.get? b = none) (hseq : ∀ i h b o, b ∈ wr → St i h → h.get? b = some o → ∀ vs k, o.data ≠ .seq vs k)
    (its : ∀ i v s', P i v → Kf C s s' → Rep s'.heap v (it i)) (hk : Kd C x)
    (turn : ∀ i, i < n → Ex C ((x, it i) :: inv i) body (fun o => match o with | .next ρ' => Sub (inv (i + 1)) ρ' | .ret a => K (.ret a)))
    (done : K (.next (inv n))) (hQ : ∀ o fl s', K o → Kf C s s' → OutSat C o fl s' → Q fl s') :
    codeAny (model pg C.w) C.A (.forLoop (.Name x px) (.ref I) body [] C.env) (fun r s' => match r with | .ok f => Q f s' | .error e => cameBackBy (model pg C.w) C.A C.env nE e s') s2 := by
  have hw : ∀ i (s1 : Shared), Kf C s s1 → St i s1.heap → ∀ b ∈ wr, C.s₀.heap.get? b = none ∧ b ≠ C.env.locals ∧ (∀ y ∈ C.env.cells, y.2 ≠ b) ∧ ∀ o, s1.heap.get? b = some o → ∀ vs k, o.data ≠ .seq vs k := by
    intro i s1 k1 st b hb
    obtain ⟨⟨oL, hL⟩, hc⟩ := hs.has
    refine ⟨?_, fun q => ?_, fun y hy q => ?_, fun o e => hseq i _ b o hb st e⟩
    · cases e : C.s₀.heap.get? b with
      | none => rfl
      | some o => have := hs.keep b o e; rw [hwr b hb] at this; cases this
    · have := hwr b hb; rw [q, hL] at this; cases this
    · obtain ⟨oc, ho⟩ := hc y hy
      have := hwr b hb; rw [← q, ho] at this; cases this
  have kfw : ∀ (s1 : Shared) (h' : Heap) (tk : Nat), Kf C s s1 → (∀ b o, b ∉ wr → s1.heap.get? b = some o → h'.get? b = some o) → Kf C s { s1 with heap := h', toks := tk } := by
    rintro s1 h' tk ⟨⟨g, t, rfl⟩, hk1⟩ hk
    exact ⟨⟨h', tk, rfl⟩, fun b o n1 n2 e => hk b o (fun q => by rw [hwr b q] at e; cases e) (hk1 b o n1 n2 e)⟩
  refine codeAny_forLoop (fun k s' => ∃ i, i ≤ n ∧ k = n + 1 - i ∧ Kf C s s' ∧ Sat C (inv i) s' ∧ St i s'.heap) (fun k s1 hI => ?_) (n + 1) ⟨0, Nat.zero_le _, rfl, k2.kf, h0, hst⟩
  obtain ⟨i, hi, rfl, k1, hs1, st1⟩ := hI
  by_cases hlt : i < n
  · refine W.item i s1 _ _ hlt st1 fun v h' tk hP st' hk' => ?_
    have hs1' := hs1.bump (tk := tk) hk' (hw i s1 k1 st1)
    have k1' := kfw s1 h' tk k1 hk'
    refine assign_Name (of_nE (store_ hs1' (its i v _ hP k1') hk fun s3 hs3 k3 => ?_))
    refine of_nE (turn i hlt s3 _ hs3 fun o fl s4 hK k4 ho => ?_)
    have st4 : St (i + 1) s4.heap := W.frame _ _ _ st' fun b hb o e => by
      obtain ⟨n1, n2⟩ := hfp b hb
      exact k4.2 b o n1 n2 (k3.2 b o n1 n2 e)
    cases o with
    | next ρ' =>
      obtain ⟨rfl, hs4⟩ := ho
      exact ⟨n + 1 - (i + 1), by omega, i + 1, hlt, rfl, (k1'.trans k3).trans k4, hs4.weaken hK, st4⟩
    | ret a =>
      obtain ⟨v, rfl, h5, r⟩ := ho
      exact hQ _ _ s4 hK ((k1'.trans k3).trans k4) ⟨v, rfl, h5, r⟩
  · have e : i = n := by omega
    subst e
    refine W.done s1 _ _ st1 fun h' tk hk' => ?_
    exact wpAny_execs_nil (hQ _ _ _ done (kfw s1 h' tk k1 hk') ⟨rfl, hs1.bump hk' (hw i s1 k1 st1)⟩)

theorem Ex1.forL {x : Str} {px p : Pos} {e : Expr} {body : List Stmt} {K : Out → Prop} {xs : List Int} (h : Ev C ρ e (.b (.zs xs))) (inv : Nat → Loc) (h0 : Sub (inv 0) ρ) (hk : Kd C x)
    (turn : ∀ i n, xs[i]? = some n → Ex C ((x, .b (.int n)) :: inv i) body (fun o => match o with | .next ρ' => Sub (inv (i + 1)) ρ' | .ret a => K (.ret a)))
    (done : K (.next (inv xs.length))) (hs : ∀ x, foldedSetIterable e C.env x = pure x := by intro _; rfl) : Ex1 C ρ (.For (.Name x px) e body [] p) K := by
  intro s Q hS hQ
  refine wpAny_For (h s _ hS fun v s1 k1 r1 => ?_) hs
  obtain ⟨a, vs, rfl, pl, ia⟩ := r1
  have hS1 := hS.keeps k1
  refine wpAny_pyIter_list pl.isList ?_
  obtain ⟨n0, en⟩ := id pl
  have hax : a ≠ s1.heap.objs.size := Nat.ne_of_lt (Heap.lt_size en)
  have k2 : Kp s1 { s1 with heap := s1.heap.push { cls := .type "list_iterator", data := .fields #[.ref a, .int 0 0] } } := Kp.push _ _
  have W := Walks.list (prog := pg) (w := C.w) hS.ok.handled s1.heap.objs.size a hax vs.toArray
  have hn : vs.toArray.size = xs.length := by rw [List.size_toArray, ia.length]
  rw [hn] at W
  obtain ⟨⟨oL, hL⟩, hc⟩ := hS1.has
  refine forCore (x := x) (K := K) W (fun i => .b (.int (xs.getD i 0))) inv hS1 k2 ((hS1.keeps k2).weaken h0) ⟨⟨_, Heap.get?_push_size _ rfl, rfl, rfl⟩, (pl.isList.push _)⟩ ?_ ?_ ?_ ?_ hk ?_ done (fun o fl s' hK k ho => hQ o fl s' hK (k1.kf.trans k) ho)
  · intro b hb
    rcases List.mem_cons.mp hb with rfl | hb
    · exact ⟨fun q => by have := Heap.lt_size hL; rw [← q] at this; exact Nat.lt_irrefl _ this, fun y hy q => by obtain ⟨o, ho⟩ := hc y hy; have := Heap.lt_size ho; rw [q] at this; exact Nat.lt_irrefl _ this⟩
    · cases List.mem_singleton.mp hb
      exact hS1.off en
  · intro b hb
    cases List.mem_singleton.mp hb
    cases e : s1.heap.get? s1.heap.objs.size with
    | none => rfl
    | some o => exact absurd (Heap.lt_size e) (Nat.lt_irrefl _)
  · intro i h b o hb st e vs' k hd
    cases List.mem_singleton.mp hb
    obtain ⟨⟨o', ho', hc', hd'⟩, _⟩ := st
    have := e.symm.trans ho'; cases this
    rw [hd] at hd'; cases hd'
  · intro i v s' hP _
    have hP' : vs[i]? = some v := by simpa using hP
    have hlt : i < xs.length := by rw [← ia.length]; exact (List.getElem?_eq_some_iff.mp hP').1
    obtain ⟨t, hx⟩ := ia.get i xs[i] (by simp [hlt])
    rw [hx] at hP'; cases hP'
    exact ⟨t, by simp [List.getD, hlt]⟩
  · intro i hi
    have := turn i xs[i] (by simp [hi])
    simpa [List.getD, hi] using this
end
end Mine
end

section
namespace Mine
open PySem PySem.W PySem.Calls PyProof.Rows

theorem look_bind {C : Act} {h : Heap} : ∀ {xs : List Str} {vs : List Value} {as : List AV} {m cm : Str → Option Value} {ρ : Loc}, All2 (Rep h) vs as → xs.length = vs.length → (∀ x a, ρ.lookup x = some a → ∃ v, look C m cm x = some v ∧ Rep h v a) →
    ∀ x a, (zipR xs as ρ).lookup x = some a → ∃ v, look C (bindL C.env.kindOf (xs.zip vs) m) (bindC C.env.kindOf (xs.zip vs) cm) x = some v ∧ Rep h v a
  | [], _, _, m, cm, ρ, _, _, H => by
    intro x a e
    simp only [List.zip_nil_left, bindL, bindC]
    exact H x a (by simpa [zipR] using e)
  | x :: xs, [], _, _, _, _, _, hl, _ => by simp at hl
  | x :: xs, v :: vs, _, m, cm, ρ, .cons (b := b) r1 r2, hl, H => by
    intro y a e
    simp only [List.zip_cons_cons, bindL, bindC]
    refine look_bind r2 (by simpa using hl) (ρ := (x, b) :: ρ) ?_ y a e
    intro z c e'
    rw [List.lookup_cons] at e'
    by_cases hz : z = x
    · subst hz
      rw [beq_self_eq_true] at e'; cases e'
      refine ⟨v, ?_, r1⟩
      unfold look
      by_cases hk : C.env.kindOf z = some .local
      · rw [if_pos hk, if_pos hk]; simp
      · rw [if_neg hk, if_neg hk]; simp
    · rw [beq_eq_false_iff_ne.mpr hz] at e'
      obtain ⟨u, e1, r⟩ := H z c e'
      refine ⟨u, ?_, r⟩
      unfold look at e1 ⊢
      by_cases hk : C.env.kindOf z = some .local
      · rw [if_pos hk] at e1 ⊢
        split
        · simpa [hz] using e1
        · exact e1
      · rw [if_neg hk] at e1 ⊢
        split
        · exact e1
        · simpa [hz] using e1

noncomputable abbrev act (w : World) (A : Around) (fd : FuncData) (L f : Addr) (s₀ : Shared) (k : Nat) : Act := ⟨w, A, callEnvC fd L f, s₀, k⟩
noncomputable def Body (k : Nat) (f : Addr) (fd : FuncData) (ρ : Loc) (body : List Stmt) (r : AV) : Prop :=
  ∀ w A L s₀, (act w A fd L f s₀ k).Ok → Ex (act w A fd L f s₀ k) ρ body (fun o => match o with | .ret a => a = r | .next _ => r = .b .none)

theorem Fn.enter {k : Nat} {f : Addr} {as : List AV} {r : AV} {oc : Value} {od : Option Addr} {osl : Array (Option Value)} {name qual : Str} {params : Arguments} {body : List Stmt} {scope : Scope} {dV kV doc pm cdv ct : Value} {an : Option Addr}
    (xs : List Str) (ho : ∀ w, (KK w).lookup f = some ⟨oc, od, .func (fnOf name qual params body scope dV kV doc pm an cdv ct), osl⟩) (hcd : ∀ w, codeIn (KK w) cdv qual = true)
    (hb : ∀ vs : List Value, vs.length = xs.length → bindArgs (fnOf name qual params body scope dV kV doc pm an cdv ct) ⟨vs, []⟩ = pure (xs.zip vs))
    (hk : (xs.all fun y => scope.names.lookup y == some .local || scope.names.lookup y == some .cell) = true) (hnd : ((cellsFrom 0 scope.names []).map (·.1)).Nodup) (hl : xs.length = as.length)
    (H : Body k f (fnOf name qual params body scope dV kV doc pm an cdv ct) (zipR xs as []) body r)
    (hco : scope.isCoroutine = false := by rfl) (hgen : scope.isGenerator = false := by rfl) (hkd : scope.kind = .function := by rfl) : Fn (k + 1) f as r := by
  intro w A s vs Q room tp hvs hQ
  have hvl : vs.length = xs.length := by rw [hvs.length, hl]
  obtain ⟨X, mg, mb, T⟩ := id tp
  refine wpAny_call ?_
  refine codeAny_call_cells (binds := xs.zip vs) (by have := room.depth; omega) (X _ _ (ho w)) rfl T.nolimit (codeRec_of X (hcd w)) rfl (hb vs hvl) rfl ?_ ?_ hco hgen hkd
  · intro x hx
    have hx' : x.1 ∈ xs := (List.of_mem_zip (a := x.1) (b := x.2) hx).1
    have hq := List.all_eq_true.mp hk _ hx'
    rcases Bool.or_eq_true_iff.mp hq with q | q
    · exact .inl (by simpa using q)
    · have q' : scope.names.lookup x.1 = some .cell := by simpa using q
      exact .inr ⟨q', cellsFrom_some _ _ _ (.inl q')⟩
  · intro s₁ x
    have hnames : (((callEnvC (fnOf name qual params body scope dV kV doc pm an cdv ct) s.heap.objs.size f).cells).map (·.1)).Nodup := by
      show ((cellsFrom (s.heap.objs.size + 1) scope.names []).map (·.1)).Nodup
      rw [← cellsFrom_names scope.names 0 (s.heap.objs.size + 1) [] [] rfl]; exact hnd
    have fresh : ∀ a, s.heap.objs.size ≤ a → s.heap.get? a = none := fun a ha => by
      cases e : s.heap.get? a with
      | none => rfl
      | some o' => exact absurd (Heap.lt_size e) (Nat.not_lt.mpr ha)
    have ok : (act w (A.deeper (callEnvC (fnOf name qual params body scope dV kV doc pm an cdv ct) s.heap.objs.size f)) (fnOf name qual params body scope dV kV doc pm an cdv ct) s.heap.objs.size f s k).Ok :=
      { handled := room.handled
        depth := by show A.depth + 1 + k < recursionLimit; have := room.depth; omega
        units := by show A.units + 3 + 8 * k + 200 < cLine; have := room.units; omega
        kind := hkd, glob := rfl, bi := rfl, top := tp, apart := x.apart
        newL := fresh _ (Nat.le_refl _)
        newC := fun y hy => fresh _ (Nat.le_of_lt (x.above y.1 y.2 hy))
        names := hnames }
    have sat : Sat (act w (A.deeper (callEnvC (fnOf name qual params body scope dV kV doc pm an cdv ct) s.heap.objs.size f)) (fnOf name qual params body scope dV kV doc pm an cdv ct) s.heap.objs.size f s k) (zipR xs as []) s₁ := by
      refine ⟨ok, x.toInCall.same, x.toInCall.keep, _, _, x.toInCall.ns, fun y hy => x.cell y.1 y.2 (lookup_of_mem_nodup hnames hy), ?_⟩
      exact look_bind (hvs.mono fun _ _ r => r.ks (ks_of x.toInCall.keep)) hvl.symm (fun _ _ e => by simp at e)
    have kp : ∀ s', (∃ ρ, Sat (act w (A.deeper (callEnvC (fnOf name qual params body scope dV kV doc pm an cdv ct) s.heap.objs.size f)) (fnOf name qual params body scope dV kV doc pm an cdv ct) s.heap.objs.size f s k) ρ s') → Kp s s' := by
      rintro s' ⟨ρ, hs'⟩
      obtain ⟨h, tk, e⟩ := hs'.same
      exact ⟨h, tk, e, by have := hs'.keep; rw [e] at this; exact this⟩
    refine of_nE (H w _ _ s ok s₁ _ sat fun o fl s' hK _ ho => ?_)
    cases o with
    | next ρ' =>
      obtain ⟨rfl, hs'⟩ := ho
      have hK' : r = .b .none := hK
      subst hK'
      exact hQ _ _ (kp s' ⟨ρ', hs'⟩) rfl
    | ret a =>
      obtain ⟨v, rfl, hρ, ra⟩ := ho
      have hK' : a = r := hK
      subst hK'
      exact hQ v s' (kp s' hρ) ra

theorem bind1 {fd : FuncData} {x : Str} (h : ∀ v, bindArgs fd ⟨[v], []⟩ = pure [(x, v)]) : ∀ vs : List Value, vs.length = [x].length → bindArgs fd ⟨vs, []⟩ = pure ([x].zip vs)
  | [v], _ => h v
theorem bind2 {fd : FuncData} {x y : Str} (h : ∀ v u, bindArgs fd ⟨[v, u], []⟩ = pure [(x, v), (y, u)]) : ∀ vs : List Value, vs.length = [x, y].length → bindArgs fd ⟨vs, []⟩ = pure ([x, y].zip vs)
  | [v, u], _ => h v u
theorem bind3 {fd : FuncData} {x y z : Str} (h : ∀ v u t, bindArgs fd ⟨[v, u, t], []⟩ = pure [(x, v), (y, u), (z, t)]) : ∀ vs : List Value, vs.length = [x, y, z].length → bindArgs fd ⟨vs, []⟩ = pure ([x, y, z].zip vs)
  | [v, u, t], _ => h v u t
end Mine
end

section
namespace Mine
open PySem PySem.W PySem.Calls PyProof.Rows

section
variable {C : Act} {ρ : Loc}

/-- what a loop or a comprehension runs over -/
structure SrcAt (C : Act) (s sB s2 : Shared) (I : Addr) (fp : List Addr) (n : Nat) (P : Nat → Value → Prop) (St : Nat → Heap → Prop) (it : Nat → AV) : Prop where
  k1 : Kp s sB
  k2 : Kp sB s2
  W : Walks pg C.w C.A I fp [I] n P St
  st : St 0 s2.heap
  new : sB.heap.get? I = none
  lt : I < s2.heap.objs.size
  fp : ∀ b ∈ fp, b ≠ I → ∃ (o : Obj) (vs : Array Value) (k : Nat), sB.heap.get? b = some o ∧ ((o.data = .seq vs k) ∨ o.data = .fields vs)
  seq : ∀ i h o, St i h → h.get? I = some o → ∃ vs, o.data = .fields vs
  live : ∀ i h, St i h → ∃ o, h.get? I = some o
  its : ∀ i v, i < n → P i v → Rep sB.heap v (it i)
noncomputable def Src (C : Act) (ρ : Loc) (iter : Expr) (n : Nat) (it : Nat → AV) : Prop :=
  ∀ s (Q : Value → Shared → Prop), Sat C ρ s → (∀ sB s2 I fp P St, SrcAt C s sB s2 I fp n P St it → Q (.ref I) s2) →
    wpAny (model pg C.w) C.A (eval iter C.env) (fun xv s1 => wpAny (model pg C.w) C.A (pyIter xv) Q nE s1) nE s

theorem new_none {h : Heap} {a : Addr} (ha : h.objs.size ≤ a) : h.get? a = none := by
  cases e : h.get? a with
  | none => rfl
  | some o' => exact absurd (Heap.lt_size e) (Nat.not_lt.mpr ha)

theorem src_of {iter : Expr} {n : Nat} {it : Nat → AV} (h : ∀ s (Q : Value → Shared → Prop), Sat C ρ s → (∀ v s1 (a : Addr) (vs : List Value), Kp s s1 → v = .ref a → s1.heap.PlainList a vs.toArray → vs.length = n → (∀ i v, vs[i]? = some v → Rep s1.heap v (it i)) → Q v s1) → wpAny (model pg C.w) C.A (eval iter C.env) Q nE s) : Src C ρ iter n it := by
  intro s Q hs hQ
  refine h s _ hs fun v s1 a vs k1 hv pl hlen hits => ?_
  subst hv
  refine wpAny_pyIter_list pl.isList ?_
  obtain ⟨n0, en⟩ := id pl
  have hax : a ≠ s1.heap.objs.size := Nat.ne_of_lt (Heap.lt_size en)
  have W := Walks.list (prog := pg) (w := C.w) hs.ok.handled s1.heap.objs.size a hax vs.toArray
  have hsz : vs.toArray.size = n := by rw [List.size_toArray, hlen]
  rw [hsz] at W
  refine hQ s1 _ _ _ _ _ { k1 := k1, k2 := Kp.push _ _, W := W, st := ⟨⟨_, Heap.get?_push_size _ rfl, rfl, rfl⟩, pl.isList.push _⟩, new := new_none (Nat.le_refl _), lt := by show _ < (s1.heap.push _).objs.size; rw [Heap.size_push]; exact Nat.lt_succ_self _, fp := ?_, seq := ?_, live := ?_, its := ?_ }
  · intro b hb hne
    rcases List.mem_cons.mp hb with rfl | hb
    · exact absurd rfl hne
    · cases List.mem_singleton.mp hb
      exact ⟨_, _, _, en, .inl rfl⟩
  · intro i h o st e
    obtain ⟨⟨o', ho', hc', hd'⟩, _⟩ := st
    have := e.symm.trans ho'; cases this
    exact ⟨_, hd'⟩
  · rintro i h ⟨⟨o', ho', _⟩, _⟩
    exact ⟨o', ho'⟩
  · intro i v _ hP
    exact hits i v (by simpa using hP)
theorem Src.list {iter : Expr} {xs : List Int} (h : Ev C ρ iter (.b (.zs xs))) : Src C ρ iter xs.length (fun i => .b (.int (xs.getD i 0))) :=
  src_of fun s Q hs hQ => h s _ hs fun v s1 k1 r1 => by
    obtain ⟨a, vs, rfl, pl, ia⟩ := r1
    refine hQ _ s1 a vs k1 rfl pl ia.length fun i v hv => ?_
    have hlt : i < xs.length := by rw [← ia.length]; exact (List.getElem?_eq_some_iff.mp hv).1
    obtain ⟨t, hx⟩ := ia.get i xs[i] (by simp [hlt])
    rw [hx] at hv; cases hv
    exact ⟨t, by simp [List.getD, hlt]⟩
theorem Src.rows {iter : Expr} {xs : List (List Int)} (h : Ev C ρ iter (.b (.zss xs))) : Src C ρ iter xs.length (fun i => .b (.zs (xs.getD i []))) :=
  src_of fun s Q hs hQ => h s _ hs fun v s1 k1 r1 => by
    obtain ⟨a, vs, rfl, pl, ia⟩ := r1
    refine hQ _ s1 a vs k1 rfl pl ia.length fun i v hv => ?_
    have hlt : i < xs.length := by rw [← ia.length]; exact (List.getElem?_eq_some_iff.mp hv).1
    obtain ⟨v', hx, r⟩ := ia.get i xs[i] (by simp [hlt])
    rw [hx] at hv; cases hv
    have e : xs.getD i [] = xs[i] := by simp [List.getD, hlt]
    show RL _ _ _
    rw [e]; exact r

theorem Src.congr {iter : Expr} {n : Nat} {it it' : Nat → AV} (h : Src C ρ iter n it) (e : ∀ i, i < n → it i = it' i) : Src C ρ iter n it' := fun s Q hs hQ =>
  h s Q hs fun sB s2 I fp P St S => hQ sB s2 I fp P St { S with its := fun i v hi hP => e i hi ▸ S.its i v hi hP }
theorem range_src {s s1 : Shared} {r : Addr} {a b : Int} {t u v : Tok} {n : Nat} {Q : Value → Shared → Prop} (hs : Sat C ρ s) (k1 : Kp s s1) (hr : IsRange s1.heap r a b 1 t u v) (ha : -1000000 ≤ a ∧ a ≤ 1000000) (hb : -1000000 ≤ b ∧ b ≤ 1000000) (hn : n = (b - a).toNat)
    (hQ : ∀ sB s2 I fp P St, SrcAt C s sB s2 I fp n P St (fun i => .b (.int (a + i))) → Q (.ref I) s2) : wpAny (model pg C.w) C.A (pyIter (.ref r)) Q nE s1 := by
  refine wpAny_pyIter_range hr (small_one (by omega) (by omega) (by omega) (by omega)) ?_
  have hsz : Builtin.Range.rangeSize a b 1 = (n : Int) := by rw [rangeSize_one]; split <;> omega
  rw [hsz]
  have W := Walks.range (prog := pg) (w := C.w) hs.ok.handled s1.heap.objs.size a 1 n
  refine hQ s1 _ _ _ _ _ { k1 := k1, k2 := Kp.push _ _, W := W, st := ?_, new := new_none (Nat.le_refl _), lt := by show _ < (s1.heap.push _).objs.size; rw [Heap.size_push]; exact Nat.lt_succ_self _, fp := ?_, seq := ?_, live := ?_, its := ?_ }
  · have e1 : (a + ((0 : Nat) : Int) * 1) = a := by simp
    have e2 : ((n : Int) - ((0 : Nat) : Int)) = (n : Int) := by simp
    rw [e1, e2]
    exact Heap.get?_push_size _ rfl
  · intro b hb hne
    exact absurd (List.mem_singleton.mp hb) hne
  · intro i h o st e
    have := e.symm.trans st; cases this
    exact ⟨_, rfl⟩
  · intro i h st
    exact ⟨_, st⟩
  · rintro i v _ ⟨t, rfl⟩
    exact ⟨t, by rw [Int.mul_one]⟩
theorem Src.range1 {e : Expr} {p q : Pos} {b : Int} (hg : Gb "range" (.type "range")) (h : Evs C ρ [e] [.b (.int b)]) (hb : -1000000 ≤ b ∧ b ≤ 1000000) (hg' : C.env.kindOf "range" = some .globalImplicit := by rfl) :
    Src C ρ (.Call (.Name "range" p) [e] [] q) b.toNat (fun i => .b (.int i)) := by
  intro s Q hs hQ
  refine wpAny_Call_NameR (ev_builtin hg hs hg' (by decide) ?_)
  refine PySem.callWith_type (backTo_plain h.1) (h.args hs fun vs s1 k1 r1 => ?_)
  obtain _ | ⟨⟨t, rfl⟩, _ | _⟩ := r1
  refine call_range_1 ?_
  refine range_src hs (k1.trans (Kp.push _ _)) (IsRange.new ..) (by omega) hb (n := b.toNat) (by omega) fun sB s2 I fp P St x => hQ sB s2 I fp P St ?_
  have e : (fun i : Nat => AV.b (.int ((0 : Int) + i))) = fun i => .b (.int i) := by funext i; simp
  rw [e] at x; exact x
theorem Src.range2 {e e' : Expr} {p q : Pos} {a b : Int} (hg : Gb "range" (.type "range")) (h : Evs C ρ [e, e'] [.b (.int a), .b (.int b)]) (ha : -1000000 ≤ a ∧ a ≤ 1000000) (hb : -1000000 ≤ b ∧ b ≤ 1000000) (hg' : C.env.kindOf "range" = some .globalImplicit := by rfl) :
    Src C ρ (.Call (.Name "range" p) [e, e'] [] q) (b - a).toNat (fun i => .b (.int (a + i))) := by
  intro s Q hs hQ
  refine wpAny_Call_NameR (ev_builtin hg hs hg' (by decide) ?_)
  refine PySem.callWith_type (backTo_plain h.1) (h.args hs fun vs s1 k1 r1 => ?_)
  obtain _ | ⟨⟨t, rfl⟩, _ | ⟨⟨t', rfl⟩, _ | _⟩⟩ := r1
  refine call_range_2 ?_
  exact range_src hs (k1.trans (Kp.push _ _)) (IsRange.new ..) ha hb rfl hQ

theorem SrcAt.off {s sB s2 : Shared} {I : Addr} {fp : List Addr} {n : Nat} {P : Nat → Value → Prop} {St : Nat → Heap → Prop} {it : Nat → AV} (x : SrcAt C s sB s2 I fp n P St it) (hs : Sat C ρ sB) : ∀ b ∈ fp, b ≠ C.env.locals ∧ ∀ y ∈ C.env.cells, y.2 ≠ b := by
  intro b hb
  obtain ⟨m, cm, ⟨oL, _, _, hL, hd, _⟩, hcc, _⟩ := hs.ex
  by_cases hI : b = I
  · subst hI
    constructor
    · intro q
      have := x.new
      rw [q, hL] at this
      cases this
    · intro y hy q
      obtain ⟨o, ho, _⟩ := hcc y hy
      have := x.new
      rw [← q, ho] at this
      cases this
  · obtain ⟨o, vs, k, e, hd'⟩ := x.fp b hb hI
    constructor
    · intro q
      rw [q] at e
      have := e.symm.trans hL
      cases this
      rw [hd] at hd'
      rcases hd' with h | h <;> cases h
    · intro y hy q
      obtain ⟨o', ho, hd2⟩ := hcc y hy
      rw [q] at ho
      have := e.symm.trans ho
      cases this
      rw [hd2] at hd'
      rcases hd' with h | h <;> cases h

theorem Ex1.for {x : Str} {px p : Pos} {e : Expr} {body : List Stmt} {K : Out → Prop} {n : Nat} {it : Nat → AV} (h : Src C ρ e n it) (inv : Nat → Loc) (h0 : Sub (inv 0) ρ)
    (turn : ∀ i, i < n → Ex C ((x, it i) :: inv i) body (fun o => match o with | .next ρ' => Sub (inv (i + 1)) ρ' | .ret a => K (.ret a)))
    (done : K (.next (inv n))) (hk : Kd C x := by first | exact Or.inl rfl | exact Or.inr ⟨rfl, rfl⟩) (hs : ∀ x, foldedSetIterable e C.env x = pure x := by intro _; rfl) : Ex1 C ρ (.For (.Name x px) e body [] p) K := by
  intro s Q hS hQ
  refine wpAny_For (h s _ hS fun sB s2 I fp P St S => ?_) hs
  have hB := hS.keeps S.k1
  have hw : ∀ i v, P i v → i < n → Rep sB.heap v (it i) := fun i v hP hi => S.its i v hi hP
  -- the walk's items below n
  have W' : Walks pg C.w C.A I fp [I] n (fun i v => i < n ∧ P i v) St :=
    { sub := S.W.sub, frame := S.W.frame, done := S.W.done, self := S.W.self,
      item := fun i s Q E hi st hQ => S.W.item i s Q E hi st fun v h' tk hP => hQ v h' tk ⟨hi, hP⟩ }
  refine forCore (x := x) (K := K) W' it inv hB S.k2 ((hB.keeps S.k2).weaken h0) S.st (S.off hB) (fun b hb => by rw [List.mem_singleton.mp hb]; exact S.new) ?_ ?_ hk turn done fun o fl s' hK k ho => hQ o fl s' hK (S.k1.kf.trans k) ho
  · intro i h b o hb st e vs k hd
    rw [List.mem_singleton.mp hb] at e
    obtain ⟨us, hd'⟩ := S.seq i h o st e
    rw [hd] at hd'; cases hd'
  · rintro i v s' ⟨hi, hP⟩ kf
    exact (hw i v hP hi).ks (hB.ks kf)
end
end Mine
end

section
namespace Mine
open PySem PySem.W PySem.Calls PyProof.Rows

/-- the activation within a comprehension -/
noncomputable abbrev inn (C : Act) (scope : Scope) (cl : List (Str × Addr)) (Cn : Addr) (s₀ : Shared) : Act := ⟨C.w, C.A, compEnvC scope cl Cn C.env, s₀, C.k⟩

section
variable {C : Act} {ρ : Loc}

theorem inn_sat {scope : Scope} {cl : List (Str × Addr)} {Cn : Addr} {x : Str} {v : Value} {a : AV} {ρc : Loc} {s s3 : Shared} {m₃ : Str → Option Value} (hs : Sat C ρ s) (hkind : scope.kind = .function) (hcl : ∀ y ∈ cl, y ∈ C.env.cells) (hnd : (cl.map (·.1)).Nodup)
    (hCn : s.heap.get? Cn = none) (hk : ∀ b o, s.heap.get? b = some o → s3.heap.get? b = some o) (hn : s3.heap.Ns Cn m₃) (hx : m₃ x = some v) (hr : Rep s3.heap v a) (hxl : (compEnvC scope cl Cn C.env).kindOf x = some .local)
    (hsub : Sub ρc ρ) (hρc : ∀ y b, ρc.lookup y = some b → ∃ c, (y, c) ∈ cl ∧ (compEnvC scope cl Cn C.env).kindOf y ≠ some .local ∧ C.env.kindOf y ≠ some .local) :
    Sat (inn C scope cl Cn { s3 with heap := C.s₀.heap }) ((x, a) :: ρc) s3 := by
  obtain ⟨m, cm, hn0, hc0, hr0⟩ := id hs.ex
  have hnew : C.s₀.heap.get? Cn = none := by
    cases e : C.s₀.heap.get? Cn with
    | none => rfl
    | some o => have := hs.keep _ o e; rw [hCn] at this; cases this
  refine ⟨{ handled := hs.ok.handled, depth := hs.ok.depth, units := hs.ok.units, kind := hkind, glob := hs.ok.glob, bi := hs.ok.bi, top := hs.ok.top, apart := ?_, newL := hnew, newC := fun y hy => hs.ok.newC y (hcl y hy), names := hnd }, ⟨s3.heap, s3.toks, rfl⟩, fun b o e => hk b o (hs.keep b o e), m₃, cm, hn, fun y hy => (hc0 y (hcl y hy)).keeps hk, ?_⟩
  · show cl.Pairwise fun x y => x.2 ≠ y.2
    have h1 : cl.Pairwise fun x y => x.1 ≠ y.1 := by rw [List.nodup_iff_pairwise_ne] at hnd; exact List.pairwise_map.mp hnd
    refine h1.imp_of_mem fun {x y} hx hy hne e => hne ?_
    exact name_of_addr hs.ok.apart (hcl x hx) (by rw [e]; exact hcl y hy)
  · intro y b e
    rw [List.lookup_cons] at e
    by_cases hy : y = x
    · subst hy
      rw [beq_self_eq_true] at e; cases e
      exact ⟨v, by unfold look; rw [if_pos hxl]; exact hx, hr⟩
    · rw [beq_eq_false_iff_ne.mpr hy] at e
      obtain ⟨c, hm, h1, h2⟩ := hρc y b e
      obtain ⟨u, e1, r1⟩ := hr0 y b (hsub y b e)
      refine ⟨u, ?_, r1.ks (ks_of hk)⟩
      unfold look at e1 ⊢
      rw [if_neg h2] at e1
      rw [if_neg h1]; exact e1

theorem ints_of_paired {P : Nat → Value → Prop} {F : Int → Int} : ∀ {vs ys : List Value}, Paired (α := Value) (β := Value) (fun (v y : Value) => ∃ (k : Int) (t u : Tok), v = .int k t ∧ y = .int (F k) u) vs ys → ∀ (ks : List Int), (∀ (i : Nat) (v : Value), vs[i]? = some v → ∃ (k : Int) (t : Tok), ks[i]? = some k ∧ v = Value.int k t) → ks.length = vs.length → IntsAre ys (ks.map F)
  | _, _, .nil, ks, _, hl => by
    have : ks = [] := List.eq_nil_of_length_eq_zero (by simpa using hl)
    subst this; exact .nil
  | _, _, .cons ⟨k, t, u, e1, e2⟩ r, ks, h, hl => by
    cases ks with
    | nil => simp at hl
    | cons k' ks =>
      obtain ⟨k2, t2, h1, h2⟩ := h 0 _ rfl
      simp at h1
      subst h1
      have hv := e1.symm.trans h2
      cases hv
      rw [e2, List.map_cons]
      exact .cons _ u (ints_of_paired (P := P) r ks (fun i v hv => by simpa using h (i + 1) v (by simpa using hv)) (by simpa using hl))

/-- a comprehension of ints over ints -/
theorem Ev.compI {elt iter : Expr} {x : Str} {px p : Pos} {scope : Scope} {cl : List (Str × Addr)} {n : Nat} {ks : List Int} (F : Int → Int) (ρc : Loc)
    (src : Src C ρ iter n (fun i => .b (.int (ks.getD i 0)))) (hn : ks.length = n) (hz : n ≤ 1000000) (hclos : closureFor scope C.env = pure cl) (hcell : ∀ y ∈ scope.names, y.2 ≠ .cell) (hkind : scope.kind = .function)
    (hnames : ∀ y ∈ scope.names, y.2 = .local → scope.names.lookup y.1 = some .local) (hx : scope.names.lookup x = some .local)
    (hcl : ∀ y ∈ cl, y ∈ C.env.cells) (hnd : (cl.map (·.1)).Nodup) (hsub : Sub ρc ρ) (hρc : ∀ Cn y b, ρc.lookup y = some b → ∃ c, (y, c) ∈ cl ∧ (compEnvC scope cl Cn C.env).kindOf y ≠ some .local ∧ C.env.kindOf y ≠ some .local)
    (helt : ∀ Cn s₀ k, k ∈ ks → Ev (inn C scope cl Cn s₀) ((x, .b (.int k)) :: ρc) elt (.b (.int (F k))))
    (hs : ∀ x, foldedSetIterable iter C.env x = pure x := by intro _; rfl) :
    Ev C ρ (.ListComp elt [⟨.Name x px, iter, [], 0⟩] scope p) (.b (.zs (ks.map F))) := by
  intro s Q hS hQ
  refine wpAny_ListComp_free (p := fun _ => true) (F := fun (v y : Value) => ∃ (k : Int) (t u : Tok), v = .int k t ∧ y = .int (F k) u) hclos hcell hkind hnames hx (src s _ hS fun sB s2 I fp P St S => ?_) hs
  have hB := hS.keeps S.k1
  have h2 := hB.keeps S.k2
  have W' : Walks pg C.w C.A I fp [I] n (fun i v => i < n ∧ P i v) St :=
    { sub := S.W.sub, frame := S.W.frame, done := S.W.done, self := S.W.self,
      item := fun i s Q E hi st hQ => S.W.item i s Q E hi st fun v h' tk hP => hQ v h' tk ⟨hi, hP⟩ }
  have hit : ∀ (i : Nat) (v : Value), i < n → P i v → ∃ (k : Int) (t : Tok), ks[i]? = some k ∧ v = Value.int k t := fun i v hi hP => by
    obtain ⟨t, e⟩ := S.its i v hi hP
    have hlt : i < ks.length := by omega
    exact ⟨ks[i], t, by simp [hlt], by rw [e]; simp [List.getD, hlt]⟩
  refine ⟨I, fp, [I], n, _, St, rfl, W', sizeL hz, S.st, fun b hb => ?_, ⟨fun Cn i v s₃ m₃ E' hC hP hn hm hk ht => wpAny_tests_nil ⟨rfl, Kp.rfl'⟩, fun Cn i v s₃ m₃ E' hC hP _ hn hm hk ht => ?_⟩, fun D h' tk ys vs hD hl hpl hlen hP hF hk => ?_⟩
  · by_cases hI : b = I
    · subst hI; exact S.lt
    · obtain ⟨o, vs, k, e, _⟩ := S.fp b hb hI
      exact Heap.lt_size (S.k2.get b o e)
  · obtain ⟨k, t, hk1, rfl⟩ := hit i v hP.1 hP.2
    have hkeep : ∀ b o, sB.heap.get? b = some o → s₃.heap.get? b = some o := fun b o e => hk b o (fun q => by rw [List.mem_singleton.mp q, S.new] at e; cases e) (S.k2.get b o e)
    have hCn : sB.heap.get? Cn = Option.none := by
      cases e : sB.heap.get? Cn with
      | none => rfl
      | some o => exact absurd (Heap.lt_size (S.k2.get _ o e)) (Nat.not_lt.mpr hC)
    have sat := inn_sat (scope := scope) (cl := cl) (Cn := Cn) (x := x) (a := .b (.int k)) (ρc := ρc) hB hkind hcl hnd hCn hkeep hn hm ⟨t, rfl⟩ (lookup_relabel_local hx) hsub (hρc Cn)
    exact of_nE (helt Cn _ k (List.mem_of_getElem? hk1) s₃ _ sat fun y s₄ k4 r4 => by
      obtain ⟨u, rfl⟩ := r4
      exact ⟨⟨k, t, u, rfl, rfl⟩, k4⟩)
  · have hall : vs.filter (fun _ => true) = vs := by simp
    rw [hall] at hF
    refine hQ (.ref D) _ (S.k1.trans ?_) ⟨D, ys.toList, rfl, by simpa using hpl, ints_of_paired (P := P) hF ks (fun i v hv => hit i v (hP i v hv).1 (hP i v hv).2) (by omega)⟩
    obtain ⟨h2', t2, e2, hk2⟩ := S.k2
    refine ⟨h', tk, by rw [e2], fun b o e => hk b o (fun q => by rw [List.mem_singleton.mp q, S.new] at e; cases e) ?_⟩
    rw [e2]; exact hk2 b o e

/-- the same, its looks by reckoning -/
theorem Ev.compB {elt iter : Expr} {x : Str} {px p : Pos} {scope : Scope} {n : Nat} {ks : List Int} (F : Int → Int) (cl : List (Str × Addr)) (ρc : Loc)
    (src : Src C ρ iter n (fun i => .b (.int (ks.getD i 0)))) (hn : ks.length = n) (hz : n ≤ 1000000)
    (helt : ∀ Cn s₀ k, k ∈ ks → Ev (inn C scope cl Cn s₀) ((x, .b (.int k)) :: ρc) elt (.b (.int (F k))))
    (hsub : Sub ρc ρ) (hcl : ∀ y ∈ cl, y ∈ C.env.cells)
    (hclos : closureFor scope C.env = pure cl := by with_unfolding_all rfl)
    (hρc : (ρc.all fun q => (cl.lookup q.1).isSome && ((relabel scope C.env).names.lookup q.1 == some .cell) && (C.env.kindOf q.1 == some .cell)) = true := by rfl)
    (hcell : ∀ y ∈ scope.names, y.2 ≠ .cell := by decide) (hkind : scope.kind = .function := by rfl)
    (hnames : ∀ y ∈ scope.names, y.2 = .local → scope.names.lookup y.1 = some .local := by decide) (hx : scope.names.lookup x = some .local := by rfl)
    (hnd : ((cl.map (·.1)).Nodup) := by first | decide | (simp only [List.map_cons, List.map_nil]; decide))
    (hs : ∀ x, foldedSetIterable iter C.env x = pure x := by intro _; rfl) :
    Ev C ρ (.ListComp elt [⟨.Name x px, iter, [], 0⟩] scope p) (.b (.zs (ks.map F))) := by
  refine Ev.compI F ρc src hn hz hclos hcell hkind hnames hx hcl hnd hsub ?_ helt hs
  intro Cn y b e
  have hm := mem_of_lookup e
  have h := List.all_eq_true.mp hρc _ hm
  simp only [Bool.and_eq_true, beq_iff_eq] at h
  obtain ⟨⟨h1, h2⟩, h3⟩ := h
  obtain ⟨c, hc⟩ := Option.isSome_iff_exists.mp h1
  refine ⟨c, mem_of_lookup hc, ?_, ?_⟩
  · show (relabel scope C.env).names.lookup y ≠ _
    rw [h2]; decide
  · rw [h3]; decide
end
end Mine
end

section
namespace Mine
/-! the plain functions that the walk arrives at -/
noncomputable def trimL (xs : List Int) : List Int := (xs.reverse.dropWhile (· == 0)).reverse
noncomputable def leadL (xs : List Int) : Int := xs.getLast?.getD 0
noncomputable def addL (xs ys : List Int) : List Int := trimL ((List.range (max xs.length ys.length)).map fun i => xs.getD i 0 + ys.getD i 0)
noncomputable def negL (xs : List Int) : List Int := xs.map fun n => -n
noncomputable def subL (xs ys : List Int) : List Int := addL xs (negL ys)
noncomputable def scaleL (xs : List Int) (k : Int) : List Int := if k != 0 then xs.map (fun n => n * k) else []
noncomputable def raiseL (xs : List Int) (m : Nat) : List Int := if 0 < xs.length then List.replicate m 0 ++ xs else []
noncomputable def divL (xs : List Int) (k : Int) : List Int := xs.map fun n => n.fdiv k
noncomputable def gcdL (xs : List Int) : Int := xs.foldl (fun g n => (Int.gcd g n : Int)) 0
noncomputable def primL (xs : List Int) : List Int := if xs.length = 0 then [] else divL xs (if 0 < leadL xs then gcdL xs else -gcdL xs)
noncomputable def deriveL (xs : List Int) : List Int := ((List.range xs.length).map fun i => xs.getD i 0 * i).drop 1

theorem trimL_take (xs : List Int) (n : Nat) (h : xs[n]? = some 0) : trimL (xs.take (n + 1)) = trimL (xs.take n) := by
  unfold trimL
  rw [List.take_add_one, h]
  simp
theorem trimL_stop (xs : List Int) (n : Nat) (k : Int) (h : xs[n]? = some k) (hk : k ≠ 0) : trimL (xs.take (n + 1)) = xs.take (n + 1) := by
  unfold trimL
  rw [List.take_add_one, h]
  simp [hk]
theorem trimL_nil : trimL [] = [] := rfl
theorem trimL_length (xs : List Int) : (trimL xs).length ≤ xs.length := by
  unfold trimL
  rw [List.length_reverse]
  have h := (List.dropWhile_sublist (fun x : Int => x == 0) (l := xs.reverse)).length_le
  simpa using h
theorem addL_length (xs ys : List Int) : (addL xs ys).length ≤ max xs.length ys.length := by
  unfold addL
  exact Nat.le_trans (trimL_length _) (by simp)

noncomputable def addAt (cur : List Int) (p : Nat) (v : Int) : List Int := cur.set p (cur.getD p 0 + v)
noncomputable def innerL (cur : List Int) (i : Nat) (left : Int) (ys : List Int) (j : Nat) : List Int := (List.range j).foldl (fun c k => addAt c (i + k) (left * ys.getD k 0)) cur
noncomputable def outerL (xs ys : List Int) (i : Nat) : List Int := (List.range i).foldl (fun c k => if xs.getD k 0 != 0 then innerL c k (xs.getD k 0) ys ys.length else c) (List.replicate (xs.length + ys.length - 1) 0)
noncomputable def mulL (xs ys : List Int) : List Int := if xs.length = 0 ∨ ys.length = 0 then [] else outerL xs ys xs.length
theorem addAt_length (cur : List Int) (p : Nat) (v : Int) : (addAt cur p v).length = cur.length := by simp [addAt]
theorem innerL_length (i : Nat) (left : Int) (ys : List Int) : ∀ (j : Nat) (cur : List Int), (innerL cur i left ys j).length = cur.length
  | 0, cur => rfl
  | j + 1, cur => by
    have := innerL_length i left ys j cur
    unfold innerL at this ⊢
    rw [List.range_succ, List.foldl_append]
    simp only [List.foldl_cons, List.foldl_nil, addAt_length]
    exact this
theorem innerL_succ (cur : List Int) (i : Nat) (left : Int) (ys : List Int) (j : Nat) : innerL cur i left ys (j + 1) = addAt (innerL cur i left ys j) (i + j) (left * ys.getD j 0) := by
  unfold innerL
  rw [List.range_succ, List.foldl_append]; rfl
theorem outerL_succ (xs ys : List Int) (i : Nat) : outerL xs ys (i + 1) = if xs.getD i 0 != 0 then innerL (outerL xs ys i) i (xs.getD i 0) ys ys.length else outerL xs ys i := by
  unfold outerL
  rw [List.range_succ, List.foldl_append]; rfl
theorem outerL_length (xs ys : List Int) : ∀ i, (outerL xs ys i).length = xs.length + ys.length - 1
  | 0 => by simp [outerL]
  | i + 1 => by
    rw [outerL_succ]
    split
    · rw [innerL_length, outerL_length xs ys i]
    · exact outerL_length xs ys i
theorem mulL_length (xs ys : List Int) : (mulL xs ys).length ≤ xs.length + ys.length - 1 := by
  unfold mulL
  split
  · exact Nat.zero_le _
  · rw [outerL_length]; exact Nat.le_refl _

/-! sizes -/
noncomputable def nrm : List Int → Nat
  | [] => 0
  | x :: r => x.natAbs + nrm r
theorem nrm_append (xs ys : List Int) : nrm (xs ++ ys) = nrm xs + nrm ys := by
  induction xs with
  | nil => simp [nrm]
  | cons x r ih => simp only [List.cons_append, nrm, ih]; omega
theorem nrm_reverse (xs : List Int) : nrm xs.reverse = nrm xs := by
  induction xs with
  | nil => rfl
  | cons x r ih => simp only [List.reverse_cons, nrm_append, nrm, ih]; omega
theorem nrm_mem {xs : List Int} {x : Int} (h : x ∈ xs) : x.natAbs ≤ nrm xs := by
  induction xs with
  | nil => cases h
  | cons y r ih =>
    rcases List.mem_cons.mp h with rfl | h
    · simp only [nrm]; omega
    · have := ih h; simp only [nrm]; omega
theorem nrm_getD (xs : List Int) (i : Nat) : (xs.getD i 0).natAbs ≤ nrm xs := by
  rcases Nat.lt_or_ge i xs.length with h | h
  · exact nrm_mem (by simp [List.getD, h])
  · simp [List.getD, h]
theorem nrm_sublist {xs ys : List Int} (h : xs.Sublist ys) : nrm xs ≤ nrm ys := by
  induction h with
  | slnil => exact Nat.le_refl _
  | cons a _ ih => simp only [nrm]; omega
  | cons_cons a _ ih => simp only [nrm]; omega
theorem nrm_trim (xs : List Int) : nrm (trimL xs) ≤ nrm xs := by
  unfold trimL
  rw [nrm_reverse]
  refine Nat.le_trans (nrm_sublist (List.dropWhile_sublist _)) ?_
  rw [nrm_reverse]; exact Nat.le_refl _
theorem nrm_map_le (f : Int → Int) (c : Nat) (h : ∀ x : Int, (f x).natAbs ≤ c * x.natAbs) (xs : List Int) : nrm (xs.map f) ≤ c * nrm xs := by
  induction xs with
  | nil => simp [nrm]
  | cons x r ih => simp only [List.map_cons, nrm]; have := h x; rw [Nat.mul_add]; omega
theorem nrm_neg (xs : List Int) : nrm (negL xs) = nrm xs := by
  unfold negL
  induction xs with
  | nil => rfl
  | cons x r ih => simp only [List.map_cons, nrm, ih, Int.natAbs_neg]
theorem nrm_scale (xs : List Int) (k : Int) : nrm (scaleL xs k) ≤ k.natAbs * nrm xs := by
  unfold scaleL
  split
  · exact nrm_map_le _ _ (fun x => by rw [Int.natAbs_mul, Nat.mul_comm]; exact Nat.le_refl _) xs
  · exact Nat.zero_le _
theorem natAbs_fdiv_le (x k : Int) : (x.fdiv k).natAbs ≤ x.natAbs := Int.natAbs_fdiv_le_natAbs x k
theorem nrm_div (xs : List Int) (k : Int) : nrm (divL xs k) ≤ nrm xs := by
  have := nrm_map_le (fun n => n.fdiv k) 1 (fun x => by simpa using natAbs_fdiv_le x k) xs
  simpa [divL] using this
theorem nrm_replicate (n : Nat) : nrm (List.replicate n 0) = 0 := by
  induction n with
  | zero => rfl
  | succ n ih => rw [List.replicate_succ]; simp [nrm, ih]
theorem nrm_raise (xs : List Int) (m : Nat) : nrm (raiseL xs m) ≤ nrm xs := by
  unfold raiseL
  split
  · rw [nrm_append, nrm_replicate]; omega
  · exact Nat.zero_le _
theorem nrm_range_le (f g : Nat → Int) (n : Nat) : nrm ((List.range n).map fun i => f i + g i) ≤ nrm ((List.range n).map f) + nrm ((List.range n).map g) := by
  induction n with
  | zero => simp [nrm]
  | succ n ih =>
    simp only [List.range_succ, List.map_append, List.map_singleton, nrm_append, nrm]
    have := Int.natAbs_add_le (f n) (g n)
    omega
theorem nrm_range_getD (xs : List Int) (n : Nat) : nrm ((List.range n).map fun i => xs.getD i 0) ≤ nrm xs := by
  induction xs generalizing n with
  | nil =>
    have : ((List.range n).map fun i => ([] : List Int).getD i 0) = List.replicate n 0 := by
      rw [List.eq_replicate_iff]; simp
    rw [this, nrm_replicate]; exact Nat.zero_le _
  | cons x r ih =>
    cases n with
    | zero => simp [nrm]
    | succ n =>
      rw [List.range_succ_eq_map, List.map_cons, List.map_map]
      have := ih n
      simp only [nrm, Function.comp_def]
      have e : (fun i : Nat => (x :: r).getD i.succ 0) = fun i => r.getD i 0 := by funext i; simp [List.getD]
      rw [e]
      simp only [List.getD_cons_zero]
      omega
theorem nrm_add (xs ys : List Int) : nrm (addL xs ys) ≤ nrm xs + nrm ys := by
  unfold addL
  refine Nat.le_trans (nrm_trim _) (Nat.le_trans (nrm_range_le _ _ _) ?_)
  have h1 := nrm_range_getD xs (max xs.length ys.length)
  have h2 := nrm_range_getD ys (max xs.length ys.length)
  omega
theorem nrm_sub (xs ys : List Int) : nrm (subL xs ys) ≤ nrm xs + nrm ys := by
  have := nrm_add xs (negL ys)
  rw [nrm_neg] at this
  exact this
theorem nrm_set (cur : List Int) (p : Nat) (v : Int) : nrm (cur.set p v) ≤ nrm cur + v.natAbs - (cur.getD p 0).natAbs := by
  induction cur generalizing p with
  | nil => simp [nrm]
  | cons x r ih =>
    cases p with
    | zero => simp [nrm]; omega
    | succ p =>
      have h1 := ih p
      have h2 := nrm_getD r p
      simp only [List.set_cons_succ, nrm, List.getD_cons_succ]
      omega
theorem nrm_addAt (cur : List Int) (p : Nat) (v : Int) : nrm (addAt cur p v) ≤ nrm cur + v.natAbs := by
  unfold addAt
  have h := nrm_set cur p (cur.getD p 0 + v)
  have h1 := Int.natAbs_add_le (cur.getD p 0) v
  have h2 := nrm_getD cur p
  omega
theorem nrm_range_succ (ys : List Int) (j : Nat) : nrm ((List.range (j + 1)).map fun i => ys.getD i 0) = nrm ((List.range j).map fun i => ys.getD i 0) + (ys.getD j 0).natAbs := by
  rw [List.range_succ, List.map_append, nrm_append]; simp [nrm]
theorem nrm_inner (i : Nat) (left : Int) (ys : List Int) (cur : List Int) : ∀ j, nrm (innerL cur i left ys j) ≤ nrm cur + left.natAbs * nrm ((List.range j).map fun i => ys.getD i 0)
  | 0 => by simp [innerL]
  | j + 1 => by
    rw [innerL_succ, nrm_range_succ, Nat.mul_add]
    have h1 := nrm_addAt (innerL cur i left ys j) (i + j) (left * ys.getD j 0)
    have h2 := nrm_inner i left ys cur j
    rw [Int.natAbs_mul] at h1
    omega
theorem nrm_outer (xs ys : List Int) : ∀ i, nrm (outerL xs ys i) ≤ nrm ((List.range i).map fun i => xs.getD i 0) * nrm ys
  | 0 => by simp [outerL, nrm_replicate]
  | i + 1 => by
    rw [outerL_succ, nrm_range_succ, Nat.add_mul]
    have h2 := nrm_outer xs ys i
    split
    · have h1 := nrm_inner i (xs.getD i 0) ys (outerL xs ys i) ys.length
      have h3 : (xs.getD i 0).natAbs * nrm ((List.range ys.length).map fun i => ys.getD i 0) ≤ (xs.getD i 0).natAbs * nrm ys := Nat.mul_le_mul_left _ (nrm_range_getD ys ys.length)
      omega
    · exact Nat.le_trans h2 (Nat.le_add_right _ _)
theorem nrm_mul (xs ys : List Int) : nrm (mulL xs ys) ≤ nrm xs * nrm ys := by
  unfold mulL
  split
  · exact Nat.zero_le _
  · exact Nat.le_trans (nrm_outer xs ys xs.length) (Nat.mul_le_mul_right _ (nrm_range_getD xs xs.length))
theorem nrm_derive (xs : List Int) : nrm (deriveL xs) ≤ xs.length * nrm xs := by
  unfold deriveL
  refine Nat.le_trans (nrm_sublist (List.drop_sublist _ _)) ?_
  have key : ∀ n, n ≤ xs.length → nrm ((List.range n).map fun i => xs.getD i 0 * i) ≤ xs.length * nrm ((List.range n).map fun i => xs.getD i 0) := by
    intro n
    induction n with
    | zero => intro _; simp [nrm]
    | succ n ih =>
      intro h
      rw [List.range_succ, List.map_append, List.map_append, nrm_append, nrm_append, Nat.mul_add]
      have := ih (by omega)
      simp only [List.map_singleton, nrm, Int.natAbs_mul, Nat.add_zero, Int.natAbs_natCast]
      have h2 : (xs.getD n 0).natAbs * n ≤ xs.length * (xs.getD n 0).natAbs := by rw [Nat.mul_comm]; exact Nat.mul_le_mul_right _ (by omega)
      omega
  exact Nat.le_trans (key _ (Nat.le_refl _)) (Nat.mul_le_mul_left _ (nrm_range_getD xs xs.length))

/-- bounded by a power of two -/
noncomputable def Nb (k : Nat) (xs : List Int) : Prop := nrm xs ≤ 2 ^ k
theorem Nb.le {k l : Nat} {xs : List Int} (h : Nb k xs) (hl : k ≤ l) : Nb l xs := Nat.le_trans h (Nat.pow_le_pow_right (by decide) hl)
theorem Nb.nil {k : Nat} : Nb k [] := Nat.zero_le _
theorem Nb.mul {k l : Nat} {xs ys : List Int} (h : Nb k xs) (h' : Nb l ys) : Nb (k + l) (mulL xs ys) := by
  unfold Nb; rw [Nat.pow_add]; exact Nat.le_trans (nrm_mul xs ys) (Nat.mul_le_mul h h')
theorem Nb.add {k : Nat} {xs ys : List Int} (h : Nb k xs) (h' : Nb k ys) : Nb (k + 1) (addL xs ys) := by
  unfold Nb at *; rw [Nat.pow_succ]; have := nrm_add xs ys; omega
theorem Nb.sub {k : Nat} {xs ys : List Int} (h : Nb k xs) (h' : Nb k ys) : Nb (k + 1) (subL xs ys) := by
  unfold Nb at *; rw [Nat.pow_succ]; have := nrm_sub xs ys; omega
theorem Nb.scale {k l : Nat} {xs : List Int} {c : Int} (h : Nb k xs) (hc : c.natAbs ≤ 2 ^ l) : Nb (k + l) (scaleL xs c) := by
  unfold Nb; rw [Nat.pow_add, Nat.mul_comm]; exact Nat.le_trans (nrm_scale xs c) (Nat.mul_le_mul hc h)
theorem Nb.raise {k m : Nat} {xs : List Int} (h : Nb k xs) : Nb k (raiseL xs m) := Nat.le_trans (nrm_raise xs m) h
theorem Nb.div {k : Nat} {c : Int} {xs : List Int} (h : Nb k xs) : Nb k (divL xs c) := Nat.le_trans (nrm_div xs c) h
theorem Nb.derive {k l : Nat} {xs : List Int} (h : Nb k xs) (hl : xs.length ≤ 2 ^ l) : Nb (k + l) (deriveL xs) := by
  unfold Nb; rw [Nat.pow_add, Nat.mul_comm]; exact Nat.le_trans (nrm_derive xs) (Nat.mul_le_mul hl h)
theorem Nb.get {k : Nat} {xs : List Int} (h : Nb k xs) (i : Nat) : (xs.getD i 0).natAbs ≤ 2 ^ k := Nat.le_trans (nrm_getD xs i) h
theorem Nb.mem {k : Nat} {xs : List Int} (h : Nb k xs) {x : Int} (hx : x ∈ xs) : x.natAbs ≤ 2 ^ k := Nat.le_trans (nrm_mem hx) h

/-! powers by squaring -/
noncomputable def powG (found factor : List Int) (m : Nat) : List Int :=
  if h : m = 0 then found else powG (if m % 2 = 1 then mulL found factor else found) (if 1 < m then mulL factor factor else factor) (m / 2)
termination_by m
decreasing_by omega
theorem powG_zero (found factor : List Int) : powG found factor 0 = found := by rw [powG]; simp
theorem powG_step (found factor : List Int) {m : Nat} (h : m ≠ 0) : powG found factor m = powG (if m % 2 = 1 then mulL found factor else found) (if 1 < m then mulL factor factor else factor) (m / 2) := by
  conv => lhs; rw [powG]
  simp [h]

/-! pseudo division -/
noncomputable def psRest (b rest : List Int) : List Int := subL (scaleL rest (leadL b)) (raiseL (scaleL b (leadL rest)) (rest.length - b.length))
noncomputable def psFound (b rest found : List Int) : List Int := subL (scaleL found (leadL b)) (raiseL [-(leadL rest)] (rest.length - b.length))
noncomputable def psG (b rest found : List Int) (left : Nat) : List Int × List Int × Nat :=
  if b.length ≤ rest.length then
    if h : (psRest b rest).length < rest.length then psG b (psRest b rest) (psFound b rest found) (left - 1) else (rest, found, left)
  else (rest, found, left)
termination_by rest.length
noncomputable def manyL (a b : List Int) : Nat := a.length + 1 - b.length
noncomputable def pseudoL (a b : List Int) : List Int × List Int :=
  let z := psG b a [] (manyL a b)
  (scaleL z.2.1 (leadL b ^ z.2.2), scaleL z.1 (leadL b ^ z.2.2))

theorem leadL_getD {xs : List Int} (h : xs ≠ []) : leadL xs = xs.getD (xs.length - 1) 0 := by
  unfold leadL
  rw [List.getLast?_eq_getElem?]
  simp [List.getD]
theorem leadL_natAbs (xs : List Int) : (leadL xs).natAbs ≤ nrm xs := by
  rcases List.eq_nil_or_concat xs with rfl | ⟨_, _, rfl⟩
  · simp [leadL, nrm]
  · rw [leadL_getD (by simp)]; exact nrm_getD _ _
theorem trimL_last_zero (xs : List Int) (h : xs.getD (xs.length - 1) 0 = 0) (h0 : 0 < xs.length) : (trimL xs).length < xs.length := by
  rcases List.eq_nil_or_concat xs with rfl | ⟨ys, y, rfl⟩
  · simp at h0
  · have hy : y = 0 := by simpa [List.getD] using h
    subst hy
    unfold trimL
    simp only [List.concat_eq_append, List.reverse_append, List.reverse_cons, List.reverse_nil, List.nil_append, List.singleton_append, List.dropWhile_cons, beq_self_eq_true, if_true, List.length_reverse, List.length_append, List.length_singleton]
    have := (List.dropWhile_sublist (fun x : Int => x == 0) (l := ys.reverse)).length_le
    simp only [List.length_reverse] at this
    omega
theorem raiseL_getD (xs : List Int) (m i : Nat) : (raiseL xs m).getD i 0 = if i < m then 0 else xs.getD (i - m) 0 := by
  unfold raiseL
  split
  · rename_i h
    by_cases hi : i < m
    · rw [if_pos hi]
      simp [List.getD, List.getElem?_append, hi]
    · rw [if_neg hi]
      simp [List.getD, List.getElem?_append, hi]
  · rename_i h
    have : xs = [] := List.eq_nil_of_length_eq_zero (by omega)
    subst this
    simp [List.getD]
theorem scaleL_getD (xs : List Int) (k : Int) (i : Nat) : (scaleL xs k).getD i 0 = xs.getD i 0 * k := by
  unfold scaleL
  split
  · simp only [List.getD, List.getElem?_map]
    cases xs[i]? <;> simp
  · rename_i h
    have : k = 0 := by simpa using h
    subst this
    simp [List.getD]
theorem negL_getD (xs : List Int) (i : Nat) : (negL xs).getD i 0 = -(xs.getD i 0) := by
  unfold negL
  simp only [List.getD, List.getElem?_map]
  cases xs[i]? <;> simp
theorem scaleL_length (xs : List Int) (k : Int) : (scaleL xs k).length ≤ xs.length := by
  unfold scaleL; split <;> simp
theorem raiseL_length (xs : List Int) (m : Nat) : (raiseL xs m).length ≤ xs.length + m := by
  unfold raiseL; split
  · simp; omega
  · simp
theorem negL_length (xs : List Int) : (negL xs).length = xs.length := by simp [negL]
theorem divL_length (xs : List Int) (k : Int) : (divL xs k).length = xs.length := by simp [divL]
theorem subL_length (xs ys : List Int) : (subL xs ys).length ≤ max xs.length ys.length := by
  have := addL_length xs (negL ys); rw [negL_length] at this; exact this
theorem deriveL_length (xs : List Int) : (deriveL xs).length = xs.length - 1 := by simp [deriveL]
theorem psRest_lt {b rest : List Int} (hb : b ≠ []) (h : b.length ≤ rest.length) : (psRest b rest).length < rest.length := by
  have hb0 : 0 < b.length := List.length_pos_iff.mpr hb
  have hr : rest ≠ [] := by rintro rfl; simp at h; exact hb h
  unfold psRest subL addL
  generalize hn : max (scaleL rest (leadL b)).length (negL (raiseL (scaleL b (leadL rest)) (rest.length - b.length))).length = n
  have hn' : n ≤ rest.length := by
    rw [← hn, negL_length]
    have h1 := scaleL_length rest (leadL b)
    have h2 := raiseL_length (scaleL b (leadL rest)) (rest.length - b.length)
    have h3 := scaleL_length b (leadL rest)
    omega
  rcases Nat.lt_or_ge n rest.length with hlt | hge
  · exact Nat.lt_of_le_of_lt (trimL_length _) (by simpa using hlt)
  · have e : n = rest.length := by omega
    subst e
    have := trimL_last_zero ((List.range rest.length).map fun i => (scaleL rest (leadL b)).getD i 0 + (negL (raiseL (scaleL b (leadL rest)) (rest.length - b.length))).getD i 0) ?_ ?_
    · simpa using this
    · have hi : rest.length - 1 < rest.length := by omega
      simp only [List.length_map, List.length_range]
      have e1 : ((List.range rest.length).map fun i => (scaleL rest (leadL b)).getD i 0 + (negL (raiseL (scaleL b (leadL rest)) (rest.length - b.length))).getD i 0).getD (rest.length - 1) 0 = (scaleL rest (leadL b)).getD (rest.length - 1) 0 + (negL (raiseL (scaleL b (leadL rest)) (rest.length - b.length))).getD (rest.length - 1) 0 := by
        simp [List.getD, hi]
      rw [e1, scaleL_getD, negL_getD, raiseL_getD, if_neg (by omega), scaleL_getD, show rest.length - 1 - (rest.length - b.length) = b.length - 1 by omega, ← leadL_getD hr, ← leadL_getD hb, Int.mul_comm]
      omega
    · simp; omega
theorem psG_step {b rest found : List Int} {left : Nat} (hb : b ≠ []) (h : b.length ≤ rest.length) : psG b rest found left = psG b (psRest b rest) (psFound b rest found) (left - 1) := by
  conv => lhs; rw [psG]
  rw [if_pos h, dif_pos (psRest_lt hb h)]
theorem psG_stop {b rest found : List Int} {left : Nat} (h : ¬ b.length ≤ rest.length) : psG b rest found left = (rest, found, left) := by
  rw [psG, if_neg h]
theorem Nb.psRest {k l : Nat} {b rest : List Int} (hr : Nb k rest) (hb : Nb l b) : Nb (k + l + 1) (psRest b rest) := by
  unfold Mine.psRest
  refine Nb.sub (Nb.scale hr (Nat.le_trans (leadL_natAbs b) hb)) (Nb.raise ?_)
  have := Nb.scale (c := leadL rest) hb (Nat.le_trans (leadL_natAbs rest) hr)
  rwa [Nat.add_comm] at this
theorem Nb.psFound {k l : Nat} {b rest found : List Int} (hr : Nb k rest) (hf : Nb k found) (hb : Nb l b) : Nb (k + l + 1) (psFound b rest found) := by
  unfold Mine.psFound
  refine Nb.sub (Nb.scale hf (Nat.le_trans (leadL_natAbs b) hb)) (Nb.raise (Nb.le ?_ (Nat.le_add_right k l)))
  show nrm [_] ≤ _
  simp only [nrm, Int.natAbs_neg, Nat.add_zero]
  exact Nat.le_trans (leadL_natAbs rest) hr
end Mine
end

local macro_rules | `(tactic| walk_at "gf") => `(tactic| exact fun w => by show PySem.W.nsIn (Mine.KD w.params) _ _ = _; k_is)
local macro_rules | `(tactic| walk_at "ent") => `(tactic| (show List.lookup _ (Mine.KD _) = _; k_is))
local macro_rules | `(tactic| walk_at "entc") => `(tactic| (show PySem.W.codeIn (Mine.KD _) _ _ = true; k_is))
local macro_rules | `(tactic| walk_at "sub") => `(tactic| exact Mine.Sub.of (by repeat' first | exact trivial | refine ⟨rfl, ?_⟩))
section
set_option maxRecDepth 100000
namespace Mine
open PySem PySem.W PySem.Calls PyProof.Rows

theorem filled : PySem.Challenge.rw_xm0145_01.prog = PySem.Challenge.rw_xm0145_01.prog ∧ ∀ w : World, KD w.params = KD w.params := by
  k_fill
  exact ⟨rfl, fun _ => rfl⟩
local macro_rules | `(tactic| walk_at "gb") => `(tactic| exact ⟨fun w => by show nsIn (KD w.params) _ _ = _; k_is, by decide +kernel, by decide⟩)
local macro_rules | `(tactic| walk_at "isfn") => `(tactic| exact fun w => ⟨_, _, by show List.lookup _ (KD w.params) = _; k_is, rfl⟩)
theorem gb_len : Gb "len" (.builtin "len") := by walk_at "gb"
theorem gb_abs : Gb "abs" (.builtin "abs") := by walk_at "gb"
theorem gb_max : Gb "max" (.builtin "max") := by walk_at "gb"
theorem gb_range : Gb "range" (.type "range") := by walk_at "gb"
theorem gb_list : Gb "list" (.type "list") := by walk_at "gb"
theorem gb_enumerate : Gb "enumerate" (.type "enumerate") := by walk_at "gb"
theorem gb_int : Gb "int" (.type "int") := by walk_at "gb"
theorem gf_pivot_row : Gf "pivot_row" 41 := by walk_at "gf"
theorem if_pivot_row : IsFn 41 := by walk_at "isfn"
theorem gf_bareiss_step : Gf "bareiss_step" 48 := by walk_at "gf"
theorem if_bareiss_step : IsFn 48 := by walk_at "isfn"
theorem gf_determinant : Gf "determinant" 53 := by walk_at "gf"
theorem if_determinant : IsFn 53 := by walk_at "isfn"
theorem gf_gcd : Gf "gcd" 60 := by walk_at "gf"
theorem if_gcd : IsFn 60 := by walk_at "isfn"
theorem gf_gcd_all : Gf "gcd_all" 67 := by walk_at "gf"
theorem if_gcd_all : IsFn 67 := by walk_at "isfn"
theorem gf_ztrim : Gf "ztrim" 74 := by walk_at "gf"
theorem if_ztrim : IsFn 74 := by walk_at "isfn"
theorem gf_zdegree : Gf "zdegree" 81 := by walk_at "gf"
theorem if_zdegree : IsFn 81 := by walk_at "isfn"
theorem gf_zlead : Gf "zlead" 88 := by walk_at "gf"
theorem if_zlead : IsFn 88 := by walk_at "isfn"
theorem gf_zadd : Gf "zadd" 93 := by walk_at "gf"
theorem if_zadd : IsFn 93 := by walk_at "isfn"
theorem gf_zneg : Gf "zneg" 98 := by walk_at "gf"
theorem if_zneg : IsFn 98 := by walk_at "isfn"
theorem gf_zsub : Gf "zsub" 105 := by walk_at "gf"
theorem if_zsub : IsFn 105 := by walk_at "isfn"
theorem gf_zscale : Gf "zscale" 110 := by walk_at "gf"
theorem if_zscale : IsFn 110 := by walk_at "isfn"
theorem gf_zraise : Gf "zraise" 117 := by walk_at "gf"
theorem if_zraise : IsFn 117 := by walk_at "isfn"
theorem gf_zmul : Gf "zmul" 124 := by walk_at "gf"
theorem if_zmul : IsFn 124 := by walk_at "isfn"
theorem gf_zpower : Gf "zpower" 131 := by walk_at "gf"
theorem if_zpower : IsFn 131 := by walk_at "isfn"
theorem gf_zcontent : Gf "zcontent" 138 := by walk_at "gf"
theorem if_zcontent : IsFn 138 := by walk_at "isfn"
theorem gf_zdivided : Gf "zdivided" 143 := by walk_at "gf"
theorem if_zdivided : IsFn 143 := by walk_at "isfn"
theorem gf_zprimitive : Gf "zprimitive" 150 := by walk_at "gf"
theorem if_zprimitive : IsFn 150 := by walk_at "isfn"
theorem gf_zderive : Gf "zderive" 155 := by walk_at "gf"
theorem if_zderive : IsFn 155 := by walk_at "isfn"
theorem gf_check_bottom : Gf "check_bottom" 162 := by walk_at "gf"
theorem if_check_bottom : IsFn 162 := by walk_at "isfn"
theorem gf_pseudo : Gf "pseudo" 169 := by walk_at "gf"
theorem if_pseudo : IsFn 169 := by walk_at "isfn"
theorem gf_zpseudo_rest : Gf "zpseudo_rest" 176 := by walk_at "gf"
theorem if_zpseudo_rest : IsFn 176 := by walk_at "isfn"
theorem gf_divided : Gf "divided" 181 := by walk_at "gf"
theorem if_divided : IsFn 181 := by walk_at "isfn"
theorem gf_full_rest : Gf "full_rest" 186 := by walk_at "gf"
theorem if_full_rest : IsFn 186 := by walk_at "isfn"
theorem gf_row_resultant : Gf "row_resultant" 193 := by walk_at "gf"
theorem if_row_resultant : IsFn 193 := by walk_at "isfn"
theorem gf_resultant : Gf "resultant" 200 := by walk_at "gf"
theorem if_resultant : IsFn 200 := by walk_at "isfn"
theorem gf_discriminant : Gf "discriminant" 207 := by walk_at "gf"
theorem if_discriminant : IsFn 207 := by walk_at "isfn"
theorem gf_next_height : Gf "next_height" 214 := by walk_at "gf"
theorem if_next_height : IsFn 214 := by walk_at "isfn"
theorem gf_subresultants : Gf "subresultants" 221 := by walk_at "gf"
theorem if_subresultants : IsFn 221 := by walk_at "isfn"
theorem gf_zgcd : Gf "zgcd" 228 := by walk_at "gf"
theorem if_zgcd : IsFn 228 := by walk_at "isfn"
theorem gf_zgcd_all : Gf "zgcd_all" 235 := by walk_at "gf"
theorem if_zgcd_all : IsFn 235 := by walk_at "isfn"
theorem gf_law_draw : Gf "_law_draw" 242 := by walk_at "gf"
theorem if_law_draw : IsFn 242 := by walk_at "isfn"
theorem gf_law_moved : Gf "_law_moved" 249 := by walk_at "gf"
theorem if_law_moved : IsFn 249 := by walk_at "isfn"
theorem gf_law_beside : Gf "_law_beside" 256 := by walk_at "gf"
theorem if_law_beside : IsFn 256 := by walk_at "isfn"
theorem gf_law_slopes : Gf "_law_slopes" 263 := by walk_at "gf"
theorem if_law_slopes : IsFn 263 := by walk_at "isfn"
theorem gf_law_numbers : Gf "_law_numbers" 270 := by walk_at "gf"
theorem if_law_numbers : IsFn 270 := by walk_at "isfn"
theorem gf_law_alone_right : Gf "_law_alone_right" 277 := by walk_at "gf"
theorem if_law_alone_right : IsFn 277 := by walk_at "isfn"
end Mine
end

section
set_option maxRecDepth 100000
namespace Mine
open PySem PySem.W PySem.Calls PyProof.Rows


theorem c_zdegree {xs : List Int} (hz : xs.length ≤ 1000000) : Fn 1 81 [.b (.zs xs)] (.b (.int ((xs.length : Int) - 1))) := by
  refine Fn.enter ["p"] (fun w => by walk_at "ent") (fun w => by walk_at "entc") (bind1 fun v => by rfl) (by rfl) (by decide) rfl ?_
  intro w A L s₀ ok
  exact Ex.ret (Ev.sub (Ev.callB gb_len (Evs.cons Ev.name .nil) (Bn.len hz)) Ev.int) rfl

theorem c_zneg {xs : List Int} (hz : xs.length ≤ 1000000) : Fn 1 98 [.b (.zs xs)] (.b (.zs (negL xs))) := by
  refine Fn.enter ["p"] (fun w => by walk_at "ent") (fun w => by walk_at "entc") (bind1 fun v => by rfl) (by rfl) (by decide) rfl ?_
  intro w A L s₀ ok
  refine Ex.ret (Ev.compB (fun n => -n) [] [] (Src.list Ev.name) rfl hz (fun Cn s k hk => Ev.neg Ev.name) (fun _ _ e => by simp at e) (fun _ h => nomatch h)) rfl

theorem c_gcd {a b : Int} : Fn 1 60 [.b (.int a), .b (.int b)] (.b (.int (Int.gcd a b))) := by
  refine Fn.enter ["a", "b"] (fun w => by walk_at "ent") (fun w => by walk_at "entc") (bind2 fun v u => by rfl) (by rfl) (by decide) rfl ?_
  intro w A L s₀ ok
  refine Ex.step (Ex1.assignTs (xs := ["a", "b"]) (Ev.tup (as := [.int a.natAbs, .int b.natAbs]) (Evs.cons (Ev.callB gb_abs (Evs.cons Ev.name .nil) Bn.abs) (Evs.cons (Ev.callB gb_abs (Evs.cons Ev.name .nil) Bn.abs) .nil))) (by intro x hx; simp at hx; rcases hx with rfl | rfl <;> exact Or.inl rfl) rfl) ?_
  refine Ex.step (ρ' := [("a", .b (.int (Int.gcd a b))), ("b", .b (.int 0))]) ?_ (Ex.ret Ev.name rfl)
  refine Ex1.while (σ := Nat × Nat) (fun x => [("a", .b (.int x.1)), ("b", .b (.int x.2))]) (fun x => Nat.gcd x.1 x.2 = Int.gcd a b) (fun x => x.2) (fun x => (x.2 : Int) != 0) (fun x hP => Tr.cmp Ev.name Ev.int Cmp.ne) (fun x hP hb => ?_) (fun x hP hb => ?_) (a.natAbs, b.natAbs) rfl ?_
  · have h0 : x.2 ≠ 0 := by simpa using hb
    refine Ex.step (Ex1.assignTs (xs := ["a", "b"]) (Ev.tup (as := [.int x.2, .int ((x.1 : Int).fmod x.2)]) (Evs.cons Ev.name (Evs.cons (Ev.fmod Ev.name Ev.name (by omega)) .nil))) (by intro x hx; simp at hx; rcases hx with rfl | rfl <;> exact Or.inl rfl) rfl) (Ex.nil ?_)
    refine ⟨(x.2, x.1 % x.2), ?_, ?_, Nat.mod_lt _ (Nat.pos_of_ne_zero h0)⟩
    · have e : ((x.1 : Int).fmod x.2) = ((x.1 % x.2 : Nat) : Int) := by rw [Int.fmod_eq_emod_of_nonneg _ (by omega)]; rfl
      rw [e]
      intro y c h
      simp only [zipR, List.reverse_cons, List.reverse_nil, List.nil_append, List.map_cons, List.map_nil, List.singleton_append, List.lookup_cons] at h ⊢
      split at h <;> simp_all
      split at h <;> simp_all
    · rw [← hP]; rw [Nat.gcd_comm]; exact (Nat.gcd_rec x.2 x.1).symm ▸ (Nat.gcd_comm _ _)
  · have h0 : x.2 = 0 := by simpa using hb
    simp only [h0, Nat.gcd_zero_right] at hP
    rw [← hP, h0]
    rfl
  · walk_at "sub"

theorem c_zlead {xs : List Int} (hz : xs.length ≤ 1000000) : Fn 1 88 [.b (.zs xs)] (.b (.int (leadL xs))) := by
  refine Fn.enter ["p"] (fun w => by walk_at "ent") (fun w => by walk_at "entc") (bind1 fun v => by rfl) (by rfl) (by decide) rfl ?_
  intro w A L s₀ ok
  refine Ex.ret (a := .b (.int (if decide ((0 : Int) < (xs.length : Int)) then leadL xs else 0))) (Ev.ifi (Tr.cmp (Ev.callB gb_len (Evs.cons Ev.name .nil) (Bn.len hz)) Ev.int Cmp.gt) (fun h => ?_) fun h => Ev.int) ?_
  · have h' : xs ≠ [] := by rintro rfl; simp at h
    refine Ev.last Ev.name (Ev.neg Ev.int) ?_
    unfold leadL
    rw [List.getLast?_eq_some_getLast h']
    rfl
  · cases xs with
    | nil => rfl
    | cons x r => rw [if_pos (by simp)]

theorem c_ztrim {xs : List Int} (hz : xs.length ≤ 900000) : Fn 1 74 [.b (.zs xs)] (.b (.zs (trimL xs))) := by
  refine Fn.enter ["row"] (fun w => by walk_at "ent") (fun w => by walk_at "entc") (bind1 fun v => by rfl) (by rfl) (by decide) rfl ?_
  intro w A L s₀ ok
  refine Ex.step (Ex1.assign (Ev.callB gb_len (Evs.cons Ev.name .nil) (Bn.len (by omega)))) ?_
  refine Ex.cons (K₁ := fun o => ∃ n : Nat, xs.take n = trimL xs ∧ o = .next [("row", .b (.zs xs)), ("size", .b (.int n))]) ?_ (fun ρ' h => ?_) (fun a h => by obtain ⟨n, _, h⟩ := h; cases h)
  · refine Ex1.while (σ := Nat) (fun n => [("row", .b (.zs xs)), ("size", .b (.int n))]) (fun n => n ≤ xs.length ∧ trimL (xs.take n) = trimL xs) (fun n => n) (fun n => decide ((0 : Int) < n) && (((xs.getD (n - 1) 0)) == 0)) (fun n hP => Tr.and (Tr.cmp Ev.name Ev.int Cmp.gt) fun hb => Tr.cmp (Ev.idx Ev.name (Ev.sub Ev.name Ev.int) ?_ ?_ ?_) Ev.int Cmp.eq) (fun n hP hb => ?_) (fun n hP hb => ?_) xs.length ⟨Nat.le_refl _, by rw [List.take_length]⟩ (by walk_at "sub")
    · have : 0 < n := by simpa using hb
      omega
    · have := hP.1; omega
    · have h0 : 0 < n := by simpa using hb
      have := hP.1
      rw [show ((n : Int) - 1).toNat = n - 1 by omega]
      have hlt : n - 1 < xs.length := by omega
      simp [List.getD, hlt]
    · simp only [Bool.and_eq_true, decide_eq_true_eq, beq_iff_eq] at hb
      obtain ⟨h0, h1⟩ := hb
      have h2 := hP.1
      have hlt : n - 1 < xs.length := by omega
      refine Ex.step (Ex1.augSub Ev.int) (Ex.nil ⟨n - 1, ?_, ⟨by omega, ?_⟩, by omega⟩)
      · have e : ((n - 1 : Nat) : Int) = (n : Int) - 1 := by omega
        rw [e]
        walk_at "sub"
      · rw [← hP.2]
        have hx : xs[n - 1]? = some 0 := by simpa [List.getD, hlt] using h1
        have := trimL_take xs (n - 1) hx
        rw [show n - 1 + 1 = n by omega] at this
        exact this.symm
    · refine ⟨n, ?_, rfl⟩
      rw [← hP.2]
      rcases Nat.eq_zero_or_pos n with h0 | h0
      · subst h0; simp [trimL]
      · have h2 := hP.1
        have hlt : n - 1 < xs.length := by omega
        have h1 : xs[n - 1] ≠ 0 := by
          intro h1
          simp [List.getD, hlt, h1] at hb
          omega
        have := trimL_stop xs (n - 1) xs[n - 1] (by simp [hlt]) h1
        rw [show n - 1 + 1 = n by omega] at this
        exact this.symm
  · obtain ⟨n, hn, h⟩ := h
    cases h
    refine Ex.ret (Ev.callT gb_list (Evs.cons (Ev.sliceTo Ev.name Ev.name (by omega) (by omega)) .nil) (Bt.list ?_)) ?_
    · exact Nat.le_trans (List.length_take_le' _ _) (by omega)
    · rw [← hn]; simp
end Mine
end

section
set_option maxRecDepth 100000
namespace Mine
open PySem PySem.W PySem.Calls PyProof.Rows

theorem upto_get {n : Nat} : ∀ i, i < n → AV.b (.int i) = AV.b (.int (((List.range n).map fun i : Nat => (i : Int)).getD i 0)) := by
  intro i hi
  simp [List.getD, hi]

theorem c_zadd {xs ys : List Int} (hx : xs.length ≤ 900000) (hy : ys.length ≤ 900000) : Fn 2 93 [.b (.zs xs), .b (.zs ys)] (.b (.zs (addL xs ys))) := by
  refine Fn.enter ["a", "b"] (fun w => by walk_at "ent") (fun w => by walk_at "entc") (bind2 fun v u => by rfl) (by rfl) (by decide) rfl ?_
  intro w A L s₀ ok
  refine Ex.step (Ex1.assign (Ev.callB gb_max (Evs.cons (Ev.callB gb_len (Evs.cons Ev.name .nil) (Bn.len (by omega))) (Evs.cons (Ev.callB gb_len (Evs.cons Ev.name .nil) (Bn.len (by omega))) .nil)) Bn.max)) ?_
  have e0 : (max (xs.length : Int) (ys.length : Int)) = ((max xs.length ys.length : Nat) : Int) := by omega
  rw [e0]
  have hlen : max xs.length ys.length ≤ 900000 := by omega
  generalize hn : max xs.length ys.length = n at hlen ⊢
  have key : ∀ (zs : List Int) (k : Int), zs.length ≤ 900000 → k ∈ ((List.range n).map fun i : Nat => (i : Int)) → (if decide (k < (zs.length : Int)) then zs.getD k.toNat 0 else 0) = zs.getD k.toNat 0 := by
    intro zs k hz hk
    obtain ⟨i, hi, rfl⟩ := List.mem_map.mp hk
    by_cases h : (i : Int) < (zs.length : Int)
    · simp [h]
    · have h' : zs.length ≤ i := by omega
      simp [h, List.getD, h']
  refine Ex.ret (Ev.call gf_ztrim if_ztrim (Evs.cons (Ev.compB (ks := (List.range n).map fun i : Nat => (i : Int)) (fun k => (if decide (k < (xs.length : Int)) then xs.getD k.toNat 0 else 0) + (if decide (k < (ys.length : Int)) then ys.getD k.toNat 0 else 0)) _ [("a", .b (.zs xs)), ("b", .b (.zs ys))]
    ((Src.range1 gb_range (Evs.cons Ev.name .nil) (by omega)).congr (by simpa using upto_get)) (by simp) (by omega) (fun Cn s k hk => ?_) (by walk_at "sub") ?_) .nil) (c_ztrim (by simp; omega))) ?_
  · obtain ⟨i, hi, rfl⟩ := List.mem_map.mp hk
    have hi' : i < n := List.mem_range.mp hi
    refine Ev.add (Ev.ifi (Tr.cmp Ev.name (Ev.callB gb_len (Evs.cons Ev.name .nil) (Bn.len (by omega))) Cmp.lt) (fun h => Ev.idx Ev.name Ev.name (by omega) (by omega) ?_) fun _ => Ev.int) (Ev.ifi (Tr.cmp Ev.name (Ev.callB gb_len (Evs.cons Ev.name .nil) (Bn.len (by omega))) Cmp.lt) (fun h => Ev.idx Ev.name Ev.name (by omega) (by omega) ?_) fun _ => Ev.int)
    · have h' : i < xs.length := by simpa using h
      simp [List.getD, h']
    · have h' : i < ys.length := by simpa using h
      simp [List.getD, h']
  · intro y hy
    simpa [callEnvC, newEnv, cellsFrom] using hy
  · show AV.b _ = AV.b _
    unfold addL
    rw [hn, List.map_map]
    congr 3
    apply List.map_congr_left
    intro i hi
    have hk : (i : Int) ∈ ((List.range n).map fun i : Nat => (i : Int)) := List.mem_map.mpr ⟨i, hi, rfl⟩
    have e1 := key xs i hx hk
    have e2 := key ys i hy hk
    simp only [Function.comp]
    rw [e1, e2]
    simp

noncomputable def SmL (xs : List Int) : Prop := ∀ x ∈ xs, Sm x

theorem c_zsub {xs ys : List Int} (hx : xs.length ≤ 900000) (hy : ys.length ≤ 900000) : Fn 3 105 [.b (.zs xs), .b (.zs ys)] (.b (.zs (subL xs ys))) := by
  refine Fn.enter ["a", "b"] (fun w => by walk_at "ent") (fun w => by walk_at "entc") (bind2 fun v u => by rfl) (by rfl) (by decide) rfl ?_
  intro w A L s₀ ok
  exact Ex.ret (Ev.call gf_zadd if_zadd (Evs.cons Ev.name (Evs.cons (Ev.call gf_zneg if_zneg (Evs.cons Ev.name .nil) (c_zneg (by omega))) .nil)) (c_zadd hx (by unfold negL; simpa using hy))) rfl

theorem c_zscale {xs : List Int} {k : Int} (hx : xs.length ≤ 900000) (hs : SmL xs) (hk : Sm k) : Fn 1 110 [.b (.zs xs), .b (.int k)] (.b (.zs (scaleL xs k))) := by
  refine Fn.enter ["p", "k"] (fun w => by walk_at "ent") (fun w => by walk_at "entc") (bind2 fun v u => by rfl) (by rfl) (by decide) rfl ?_
  intro w A L s₀ ok
  refine Ex.ret (a := .b (.zs (if (k != 0) then xs.map (fun n => n * k) else []))) (Ev.ifl (Tr.cmp Ev.name Ev.int Cmp.ne) (fun h => ?_) fun h => Ev.listI (xs := []) .nil) rfl
  refine Ev.compB (fun n => n * k) _ [("k", .b (.int k))] (Src.list Ev.name) rfl (by omega) (fun Cn s n hn => ?_) (by walk_at "sub") ?_
  · exact Ev.mul Ev.name Ev.name (hs n hn) hk
  · exact fun y hy => by simpa [callEnvC, newEnv, cellsFrom] using hy

theorem flat_rep (m : Nat) : (List.replicate m [(0 : Int)]).flatten = List.replicate m 0 := by
  induction m with
  | zero => rfl
  | succ m ih => rw [List.replicate_succ, List.flatten_cons, ih, List.replicate_succ]; rfl
theorem c_zraise {xs : List Int} {m : Nat} (hx : xs.length ≤ 900000) (hm : m ≤ 1000) : Fn 1 117 [.b (.zs xs), .b (.int m)] (.b (.zs (raiseL xs m))) := by
  refine Fn.enter ["p", "many"] (fun w => by walk_at "ent") (fun w => by walk_at "entc") (bind2 fun v u => by rfl) (by rfl) (by decide) rfl ?_
  intro w A L s₀ ok
  refine Ex.ret (a := .b (.zs (if decide ((0 : Int) < (xs.length : Int)) then (List.replicate (m : Int).toNat [(0 : Int)]).flatten ++ xs else []))) (Ev.ifl (Tr.cmp (Ev.callB gb_len (Evs.cons Ev.name .nil) (Bn.len (by omega))) Ev.int Cmp.gt) (fun h => ?_) fun h => Ev.listI (xs := []) .nil) ?_
  · refine Ev.cat (Ev.rep (Ev.listI (xs := [0]) (Evs.cons Ev.int .nil)) Ev.name (by omega) (by omega) (by decide)) (Ev.callT gb_list (Evs.cons Ev.name .nil) (Bt.list (by omega))) ?_
    rw [flat_rep]; simp; omega
  · unfold raiseL
    rw [flat_rep]
    cases xs <;> simp

theorem c_gcd_all {xs : List Int} : Fn 2 67 [.b (.zs xs)] (.b (.int (gcdL xs))) := by
  refine Fn.enter ["numbers"] (fun w => by walk_at "ent") (fun w => by walk_at "entc") (bind1 fun v => by rfl) (by rfl) (by decide) rfl ?_
  intro w A L s₀ ok
  refine Ex.step (Ex1.assign Ev.int) ?_
  refine Ex.step (ρ' := [("numbers", .b (.zs xs)), ("found", .b (.int (gcdL (xs.take xs.length))))]) ?_ (Ex.ret Ev.name (by rw [List.take_length]))
  refine Ex1.for (Src.list Ev.name) (fun i => [("numbers", .b (.zs xs)), ("found", .b (.int (gcdL (xs.take i))))]) (by walk_at "sub") (fun i hi => ?_) rfl
  refine Ex.step (Ex1.assign (Ev.call gf_gcd if_gcd (Evs.cons Ev.name (Evs.cons Ev.name .nil)) c_gcd)) (Ex.nil ?_)
  have e : gcdL (xs.take (i + 1)) = (Int.gcd (gcdL (xs.take i)) (xs.getD i 0) : Int) := by
    unfold gcdL
    rw [List.take_add_one, List.foldl_append]
    simp [List.getD, hi]
  show Sub _ _
  rw [e]
  walk_at "sub"

theorem c_zcontent {xs : List Int} : Fn 3 138 [.b (.zs xs)] (.b (.int (gcdL xs))) := by
  refine Fn.enter ["p"] (fun w => by walk_at "ent") (fun w => by walk_at "entc") (bind1 fun v => by rfl) (by rfl) (by decide) rfl ?_
  intro w A L s₀ ok
  exact Ex.ret (Ev.call gf_gcd_all if_gcd_all (Evs.cons Ev.name .nil) c_gcd_all) rfl

theorem c_zdivided {xs : List Int} {k : Int} (hx : xs.length ≤ 900000) (h0 : k ≠ 0) (hk : Sm k) : Fn 1 143 [.b (.zs xs), .b (.int k)] (.b (.zs (divL xs k))) := by
  refine Fn.enter ["p", "k"] (fun w => by walk_at "ent") (fun w => by walk_at "entc") (bind2 fun v u => by rfl) (by rfl) (by decide) rfl ?_
  intro w A L s₀ ok
  refine Ex.ret (Ev.compB (fun n => n.fdiv k) _ [("k", .b (.int k))] (Src.list Ev.name) rfl (by omega) (fun Cn s n hn => ?_) (by walk_at "sub") ?_) rfl
  · exact Ev.fdiv Ev.name Ev.name h0 hk
  · exact fun y hy => by simpa [callEnvC, newEnv, cellsFrom] using hy

theorem c_divided {xs : List Int} {k : Int} (hx : xs.length ≤ 900000) (h0 : k ≠ 0) (hk : Sm k) : Fn 1 181 [.b (.zs xs), .b (.int k)] (.b (.zs (divL xs k))) := by
  refine Fn.enter ["p", "number"] (fun w => by walk_at "ent") (fun w => by walk_at "entc") (bind2 fun v u => by rfl) (by rfl) (by decide) rfl ?_
  intro w A L s₀ ok
  refine Ex.ret (Ev.compB (fun n => n.fdiv k) _ [("number", .b (.int k))] (Src.list Ev.name) rfl (by omega) (fun Cn s n hn => ?_) (by walk_at "sub") ?_) rfl
  · exact Ev.fdiv Ev.name Ev.name h0 hk
  · exact fun y hy => by simpa [callEnvC, newEnv, cellsFrom] using hy

theorem c_zprimitive {xs : List Int} (hx : xs.length ≤ 900000) (h0 : xs ≠ [] → gcdL xs ≠ 0) (hk : Sm (gcdL xs)) : Fn 4 150 [.b (.zs xs)] (.b (.zs (primL xs))) := by
  refine Fn.enter ["p"] (fun w => by walk_at "ent") (fun w => by walk_at "entc") (bind1 fun v => by rfl) (by rfl) (by decide) rfl ?_
  intro w A L s₀ ok
  refine Ex.ifelse (Tr.cmp (Ev.callB gb_len (Evs.cons Ev.name .nil) (Bn.len (by omega))) Ev.int Cmp.eq) (fun h => Ex.ret (Ev.listI (xs := []) .nil) ?_) (fun h => Ex.nil ?_)
  · have : xs.length = 0 := by simpa using h
    show _ = _
    unfold primL; rw [if_pos this]
  · have hl : xs.length ≠ 0 := by simpa using h
    have hne : xs ≠ [] := by rintro rfl; simp at hl
    refine Ex.step (Ex1.assign (Ev.call gf_zcontent if_zcontent (Evs.cons Ev.name .nil) c_zcontent)) ?_
    refine Ex.ret (Ev.call gf_zdivided if_zdivided (Evs.cons Ev.name (Evs.cons (Ev.ifi (Tr.cmp (Ev.last Ev.name (Ev.neg Ev.int) (n := leadL xs) ?_) Ev.int Cmp.gt) (fun _ => Ev.name) fun _ => Ev.neg Ev.name) .nil)) (c_zdivided hx ?_ ?_)) ?_
    · unfold leadL
      rw [List.getLast?_eq_some_getLast hne]; rfl
    · have := h0 hne
      split <;> omega
    · unfold Sm at *
      split <;> simpa using hk
    · show AV.b _ = AV.b _
      unfold primL
      rw [if_neg hl]
      congr 3
      by_cases h : 0 < leadL xs <;> simp [h]

theorem c_check_bottom {xs : List Int} (hx : xs.length ≤ 900000) (h0 : xs ≠ []) : Fn 1 162 [.b (.zs xs)] (.b .none) := by
  refine Fn.enter ["p"] (fun w => by walk_at "ent") (fun w => by walk_at "entc") (bind1 fun v => by rfl) (by rfl) (by decide) rfl ?_
  intro w A L s₀ ok
  refine Ex.ifelse (Tr.cmp (Ev.callB gb_len (Evs.cons Ev.name .nil) (Bn.len (by omega))) Ev.int Cmp.eq) (fun h => ?_) (fun h => Ex.nil (Ex.nil rfl))
  exact absurd (List.eq_nil_of_length_eq_zero (by simpa using h)) h0

noncomputable def nextH (front : Int) (step : Nat) (height : Int) : Int := if step = 0 then height else (front ^ step).fdiv (height ^ (step - 1))
theorem c_next_height {front height : Int} {step : Nat} (h1 : Sm front) (h2 : Sm height) (h3 : step ≤ 1000) (h4 : height ^ (step - 1) ≠ 0) (h5 : Sm (height ^ (step - 1))) : Fn 1 214 [.b (.int front), .b (.int step), .b (.int height)] (.b (.int (nextH front step height))) := by
  refine Fn.enter ["front", "step", "height"] (fun w => by walk_at "ent") (fun w => by walk_at "entc") (bind3 fun v u t => by rfl) (by rfl) (by decide) rfl ?_
  intro w A L s₀ ok
  refine Ex.ifelse (Tr.cmp Ev.name Ev.int Cmp.eq) (fun h => Ex.ret Ev.name ?_) (fun h => Ex.nil ?_)
  · have : step = 0 := by simpa using h
    show _ = _
    unfold nextH; rw [if_pos this]
  · have hs : step ≠ 0 := by simpa using h
    have e : ((step : Int) - 1).toNat = step - 1 := by omega
    refine Ex.ret (Ev.fdiv (Ev.pow Ev.name Ev.name h1 (by omega) (by omega)) (Ev.pow Ev.name (Ev.sub Ev.name Ev.int) h2 (by omega) (by omega)) ?_ ?_) ?_
    · rw [e]; exact h4
    · rw [e]; exact h5
    · show AV.b _ = AV.b _
      unfold nextH
      rw [if_neg hs, e, Int.toNat_natCast]
end Mine
end

section
namespace Mine
open PySem PySem.W PySem.Calls PyProof.Rows

section
variable {C : Act} {ρ : Loc}

theorem Sat.offNew {s : Shared} {b : Addr} (hs : Sat C ρ s) (hb : s.heap.get? b = none) : b ≠ C.env.locals ∧ ∀ y ∈ C.env.cells, y.2 ≠ b := by
  obtain ⟨⟨oL, hL⟩, hc⟩ := hs.has
  constructor
  · intro q
    rw [q, hL] at hb
    cases hb
  · intro y hy q
    obtain ⟨o, ho⟩ := hc y hy
    rw [q, hb] at ho
    cases ho
theorem unpack2 {xi xv : Str} {pi pv tp : Pos} {x1 : Nat} {T : Addr} {a b : Value} {env : Env} {prog : Program} {w : World} {A : Around} {s : Shared} {Q : Unit → Shared → Prop} (hh : A.handled = none) (ht : s.heap.IsTuple T #[a, b])
    (h : ∀ h', Heap.ExtBut s.heap.objs.size s.heap h' → wpAny (model prog w) A (storeName env xi a) (fun _ s2 => wpAny (model prog w) A (storeName env xv b) Q nE s2) nE { s with heap := h' }) :
    wpAny (model prog w) A (assign (.Tuple [.Name xi pi, .Name xv pv] x1 tp) env (.ref T)) Q nE s := by
  refine wpAny_assign_Tuple hh ht rfl rfl fun h' he => ?_
  show wpAny _ A (do holding [b] (assign (.Name xi pi) env a); do holding [] (assign (.Name xv pv) env b); pure ()) _ _ _
  refine wpAny_bind (wpAny_holding (assign_Name (wpAny_mono (h h' he) (fun _ s2 h2 => ?_) fun _ _ e => e)))
  exact wpAny_bind (wpAny_holding (assign_Name (wpAny_mono h2 (fun _ s3 h3 => wpAny_pure h3) fun _ _ e => e)))

/-- a loop over enumerate(list), its state any -/
theorem forT {prog : Program} {w : World} {A : Around} {env : Env} {R : Result → Shared → Prop} {xi xv : Str} {pi pv tp : Pos} {x1 : Nat} {body : List Stmt} {e it l : Addr} {items : Array Value} (hh : A.handled = none) (hei : e ≠ it) (hle : l ≠ e) (hli : l ≠ it)
    (Inv : Nat → Shared → Prop) {s2 : Shared} (h0 : Inv 0 s2) (he : IsEnum s2.heap e it 0 .none) (hit : s2.heap.IsListIter it l 0) (hl : s2.heap.IsList l items)
    (bump : ∀ i s h' tk, Inv i s → (∃ k old, IsEnum s.heap e it k old) → (∃ j, s.heap.IsListIter it l j) → (∀ b o, b ≠ e → b ≠ it → s.heap.get? b = some o → h'.get? b = some o) → Inv i { s with heap := h', toks := tk })
    (turn : ∀ i t x s1, items[i]? = some x → Inv i s1 → wpAny (model prog w) A (storeName env xi (.int i t)) (fun _ s2 => wpAny (model prog w) A (storeName env xv x) (fun _ s3 => wpAny (model prog w) A (execs body env) (fun fl s4 =>
      match fl with | .next => Inv (i + 1) s4 ∧ (∀ b ∈ [e, it, l], ∀ o, s1.heap.get? b = some o → s4.heap.get? b = some o) | .ret v => R (.ok (.ret v)) s4 | _ => False) nE s3) nE s2) nE s1)
    (done : ∀ s1, Inv items.size s1 → R (.ok .next) s1) : codeAny (model prog w) A (.forLoop (.Tuple [.Name xi pi, .Name xv pv] x1 tp) (.ref e) body [] env) R s2 := by
  have W := WalksT.enumerate (prog := prog) (w := w) hh e it l hei hle hli items
  refine codeAny_forLoop_any (fun k s' => ∃ i, i ≤ items.size ∧ k = items.size + 1 - i ∧ Inv i s' ∧ ((∃ old, IsEnum s'.heap e it (i : Nat) old) ∧ s'.heap.IsListIter it l i ∧ s'.heap.IsList l items)) (fun k s1 hI => ?_) (items.size + 1) ⟨0, Nat.zero_le _, rfl, h0, ⟨.none, he⟩, hit, hl⟩
  obtain ⟨i, hi, rfl, hInv, hst⟩ := hI
  by_cases hlt : i < items.size
  · refine W.item i s1 _ _ hlt hst fun T vals h' tk hP hT ht hm hk => ?_
    obtain ⟨t, x, hx, rfl⟩ := hP
    have hTw := W.apart i T h' hm
    refine W.go _ _ _ i T _ _ _ hm fun h'' hst' hk' => ?_
    have ht' : h''.IsTuple T #[.int i t, x] := by obtain ⟨o, ho, r⟩ := ht; exact ⟨o, hk' T o hTw ho, r⟩
    refine of_nE (unpack2 hh ht' fun h3 he3 => ?_)
    have he3' : ∀ b o, h''.get? b = some o → h3.get? b = some o := fun b o e => he3 b o (Nat.ne_of_lt (Heap.lt_size e)) e
    have hw : ∀ b, b ≠ e → b ≠ it → b ∉ [e, it] := fun b h1 h2 hb => by
      rcases List.mem_cons.mp hb with h | hb
      · exact h1 h
      · exact h2 (List.mem_singleton.mp hb)
    have hInv' : Inv i { s1 with heap := h3, toks := tk } := bump i s1 h3 tk hInv ⟨_, hst.1⟩ ⟨_, hst.2.1⟩ fun b o h1 h2 e => he3' b o (hk' b o (hw b h1 h2) (hk b o (hw b h1 h2) e))
    refine wpAny_mono (turn i t x _ hx hInv') (fun _ s4 h4 => wpAny_mono h4 (fun _ s5 h5 => of_nE (wpAny_mono h5 (fun fl s6 h6 => ?_) fun _ _ e => e)) fun _ _ e => e) fun _ _ e => e
    cases fl with
    | next =>
      obtain ⟨hI', hkeep⟩ := h6
      refine ⟨items.size + 1 - (i + 1), by omega, i + 1, hlt, rfl, hI', ?_⟩
      exact W.frame (i + 1) h'' s6.heap hst' fun b hb o e => hkeep b hb o (he3' b o e)
    | ret v => exact h6
    | brk => exact h6.elim
    | cont => exact h6.elim
  · have e : i = items.size := by omega
    subst e
    refine W.done s1 _ _ hst fun h' tk hk => ?_
    have hw : ∀ b, b ≠ e → b ≠ it → b ∉ [e, it] := fun b h1 h2 hb => by
      rcases List.mem_cons.mp hb with h | hb
      · exact h1 h
      · exact h2 (List.mem_singleton.mp hb)
    exact wpAny_execs_nil (done _ (bump _ s1 h' tk hInv ⟨_, hst.1⟩ ⟨_, hst.2.1⟩ fun b o h1 h2 e => hk b o (hw b h1 h2) e))

/-- enumerate(list) is made -/
theorem ev_enum {e : Expr} {p q : Pos} {xs : List Int} {s : Shared} {Q : Value → Shared → Prop} (hg : Gb "enumerate" (.type "enumerate")) (h : Evs C ρ [e] [.b (.zs xs)]) (hs : Sat C ρ s) (hg' : C.env.kindOf "enumerate" = some .globalImplicit)
    (hQ : ∀ sB s2 (l : Addr) (vs : List Value), Kp s sB → Kp sB s2 → sB.heap.PlainList l vs.toArray → IntsAre vs xs → IsEnum s2.heap (sB.heap.objs.size + 1) sB.heap.objs.size 0 .none → s2.heap.IsListIter sB.heap.objs.size l 0 → s2.heap.objs.size = sB.heap.objs.size + 2 → Q (.ref (sB.heap.objs.size + 1)) s2) :
    wpAny (model pg C.w) C.A (eval (.Call (.Name "enumerate" p) [e] [] q) C.env) Q nE s := by
  refine wpAny_Call_NameR (ev_builtin hg hs hg' (by decide) ?_)
  refine PySem.callWith_type (backTo_plain h.1) (h.args hs fun vs s1 k1 r1 => ?_)
  obtain _ | ⟨⟨a, us, rfl, ⟨n, en⟩, ia⟩, _ | _⟩ := r1
  refine call_enumerate_1 en fun h' he hit hsz hk => ?_
  exact hQ s1 _ a us k1 ⟨h', s1.toks, rfl, hk⟩ ⟨n, en⟩ ia he hit hsz

theorem Ex1.forEnum {xi xv : Str} {pi pv tp p q pos : Pos} {x1 : Nat} {e : Expr} {body : List Stmt} {xs : List Int} {K : Out → Prop} (hg : Gb "enumerate" (.type "enumerate")) (h : Evs C ρ [e] [.b (.zs xs)]) (inv : Nat → Loc) (h0 : Sub (inv 0) ρ)
    (turn : ∀ (i : Nat) (n : Int), xs[i]? = some n → Ex C ((xv, .b (.int n)) :: (xi, .b (.int i)) :: inv i) body (fun o => match o with | .next ρ' => Sub (inv (i + 1)) ρ' | .ret a => K (.ret a)))
    (done : K (.next (inv xs.length))) (hki : Kd C xi := by first | exact Or.inl rfl | exact Or.inr ⟨rfl, rfl⟩) (hkv : Kd C xv := by first | exact Or.inl rfl | exact Or.inr ⟨rfl, rfl⟩)
    (hg' : C.env.kindOf "enumerate" = some .globalImplicit := by rfl) :
    Ex1 C ρ (.For (.Tuple [.Name xi pi, .Name xv pv] x1 tp) (.Call (.Name "enumerate" p) [e] [] q) body [] pos) K := by
  intro s Q hs hQ
  refine wpAny_For (ev_enum hg h hs hg' fun sB s2 l vs k1 k2 pl ia he hit hsz => ?_)
  have hB := hs.keeps k1
  refine wpAny_pyIter_enum he ?_
  obtain ⟨n0, en⟩ := id pl
  have hlt := Heap.lt_size en
  have hl2 : s2.heap.IsList l vs.toArray := (show s2.heap.PlainList l vs.toArray from ⟨n0, k2.get _ _ en⟩).isList
  have newE : sB.heap.get? (sB.heap.objs.size + 1) = none := new_none (Nat.le_succ _)
  have newI : sB.heap.get? sB.heap.objs.size = none := new_none (Nat.le_refl _)
  have offE := hB.offNew newE
  have offI := hB.offNew newI
  have s0none : ∀ b, sB.heap.get? b = none → C.s₀.heap.get? b = none := fun b hb => by
    cases e : C.s₀.heap.get? b with
    | none => rfl
    | some o => have := hB.keep b o e; rw [hb] at this; cases this
  have offl := hB.off en
  refine forT hs.ok.handled (Nat.succ_ne_self _) (Nat.ne_of_lt (Nat.lt_succ_of_lt hlt)) (Nat.ne_of_lt hlt) (fun i s1 => Kf C sB s1 ∧ Sat C (inv i) s1) ⟨k2.kf, (hB.keeps k2).weaken h0⟩ he hit hl2 ?_ ?_ ?_
  · rintro i s1 h' tk ⟨kf, sat⟩ ⟨k, old, he1⟩ ⟨j, o1, ho1, _, hd1⟩ hk
    constructor
    · obtain ⟨⟨g, t, rfl⟩, hkf⟩ := kf
      exact ⟨⟨h', tk, rfl⟩, fun b o n1 n2 e => hk b o (fun q => by rw [q, newE] at e; cases e) (fun q => by rw [q, newI] at e; cases e) (hkf b o n1 n2 e)⟩
    · refine sat.bump (wr := [sB.heap.objs.size + 1, sB.heap.objs.size]) (fun b o hb e => hk b o (fun q => hb (by rw [q]; exact List.mem_cons_self)) (fun q => hb (by rw [q]; exact List.mem_cons_of_mem _ List.mem_cons_self)) e) ?_
      intro b hb
      rcases List.mem_cons.mp hb with rfl | hb
      · exact ⟨s0none _ newE, offE.1, offE.2, fun o e vs k hd => by have := e.symm.trans he1; cases this; cases hd⟩
      · cases List.mem_singleton.mp hb
        exact ⟨s0none _ newI, offI.1, offI.2, fun o e vs k hd => by have := e.symm.trans ho1; cases this; rw [hd] at hd1; cases hd1⟩
  · rintro i t x s1 hx ⟨kf, sat⟩
    have hx' : vs[i]? = some x := by simpa using hx
    have hltx : i < xs.length := by rw [← ia.length]; exact (List.getElem?_eq_some_iff.mp hx').1
    obtain ⟨t', hv⟩ := ia.get i xs[i] (by simp [hltx])
    have hxe : x = .int xs[i] t' := by rw [hv] at hx'; exact (Option.some.inj hx').symm
    refine store_ (a := .b (.int i)) sat ⟨t, rfl⟩ hki fun s3 sat3 k3 => ?_
    refine store_ (a := .b (.int xs[i])) sat3 ⟨t', hxe⟩ hkv fun s4 sat4 k4 => ?_
    refine turn i xs[i] (by simp [hltx]) s4 _ sat4 fun o fl s5 hK k5 ho => ?_
    cases o with
    | next ρ' =>
      obtain ⟨rfl, sat5⟩ := ho
      have kk := (k3.trans k4).trans k5
      refine ⟨⟨kf.trans kk, sat5.weaken hK⟩, fun b hb o e => ?_⟩
      rcases List.mem_cons.mp hb with rfl | hb
      · exact kk.2 _ o offE.1 offE.2 e
      · rcases List.mem_cons.mp hb with rfl | hb
        · exact kk.2 _ o offI.1 offI.2 e
        · cases List.mem_singleton.mp hb
          exact kk.2 _ o offl.1 offl.2 e
    | ret a =>
      obtain ⟨v, rfl, h5, r⟩ := ho
      exact hQ _ _ s5 hK (k1.kf.trans (kf.trans ((k3.trans k4).trans k5))) ⟨v, rfl, h5, r⟩
  · rintro s1 ⟨kf, sat⟩
    rw [List.size_toArray, ia.length] at sat
    exact hQ _ _ s1 done (k1.kf.trans kf) ⟨rfl, sat⟩
end
end Mine
end

section
namespace Mine
open PySem PySem.W PySem.Calls PyProof.Rows

section
variable {C : Act} {ρ : Loc}

theorem kds1 {x : Str} (h1 : Kd C x) : ∀ z ∈ [x], Kd C z := fun z hz => by rw [List.mem_singleton.mp hz]; exact h1
theorem kdsc {x : Str} {l : List Str} (h1 : Kd C x) (h2 : ∀ z ∈ l, Kd C z) : ∀ z ∈ x :: l, Kd C z := fun z hz => by
  rcases List.mem_cons.mp hz with h | h
  · rw [h]; exact h1
  · exact h2 z h
theorem Tr.run {e : Expr} {b : Bool} {s : Shared} {Q : Bool → Shared → Prop} (h : Tr C ρ e b) (hs : Sat C ρ s) (hQ : ∀ s', Kp s s' → Q b s') : wpAny (model pg C.w) C.A (isTrue e C.env (eval e C.env)) Q nE s := h s Q hs hQ
theorem Ev.run {e : Expr} {a : AV} {s : Shared} {Q : Value → Shared → Prop} (h : Ev C ρ e a) (hs : Sat C ρ s) (hQ : ∀ v s', Kp s s' → Rep s'.heap v a → Q v s') : wpAny (model pg C.w) C.A (eval e C.env) Q nE s := h s Q hs hQ
/-! lists that an activation changes: held by pointers -/
noncomputable def flatA : AV → Bool
  | .b (.int _) => true
  | .b (.bool _) => true
  | .b .none => true
  | .b (.ref _) => true
  | _ => false
theorem flatA_rep {h h' : Heap} {v : Value} {a : AV} (hf : flatA a = true) (r : Rep h v a) : Rep h' v a := by
  cases a with
  | tup l => cases hf
  | b a =>
    cases a with
    | int n => exact r
    | bool b => exact r
    | none => exact r
    | ref a => exact r
    | zs xs => cases hf
    | zss xss => cases hf
    | pool xs k => cases hf
noncomputable def Flat (ρ : Loc) : Prop := (ρ.all fun q => flatA q.2) = true
theorem Flat.at {ρ : Loc} (h : Flat ρ) {x : Str} {a : AV} (e : ρ.lookup x = some a) : flatA a = true := List.all_eq_true.mp h _ (mem_of_lookup e)

/-- all but the frame's own names and the places of X stays -/
structure KX (C : Act) (X : List Addr) (s s' : Shared) : Prop where
  same : ∃ h tk, s' = { s with heap := h, toks := tk }
  keep : ∀ b o, b ≠ C.env.locals → (∀ x ∈ C.env.cells, x.2 ≠ b) → b ∉ X → s.heap.get? b = some o → s'.heap.get? b = some o
theorem KX.rfl' {X : List Addr} {s : Shared} : KX C X s s := ⟨⟨s.heap, s.toks, rfl⟩, fun _ _ _ _ _ e => e⟩
theorem KX.trans {X : List Addr} {s s' s'' : Shared} (x : KX C X s s') (y : KX C X s' s'') : KX C X s s'' := by
  obtain ⟨⟨h, tk, rfl⟩, hk⟩ := x
  obtain ⟨⟨h', tk', rfl⟩, hk'⟩ := y
  exact ⟨⟨h', tk', rfl⟩, fun b o n1 n2 n3 e => hk' b o n1 n2 n3 (hk b o n1 n2 n3 e)⟩
theorem Kf.kx {X : List Addr} {s s' : Shared} (k : Kf C s s') : KX C X s s' := ⟨k.1, fun b o n1 n2 _ e => k.2 b o n1 n2 e⟩
theorem Kp.kx {X : List Addr} {s s' : Shared} (k : Kp s s') : KX C X s s' := (Kp.kf k).kx
theorem KX.mono {X Y : List Addr} {s s' : Shared} (k : KX C X s s') (h : ∀ b ∈ X, b ∈ Y) : KX C Y s s' := ⟨k.same, fun b o n1 n2 n3 e => k.keep b o n1 n2 (fun q => n3 (h b q)) e⟩
/-- what X has is new: nothing that stood is changed -/
theorem KX.kf {X : List Addr} {s s' : Shared} (k : KX C X s s') (h : ∀ b ∈ X, s.heap.get? b = none) : Kf C s s' := ⟨k.same, fun b o n1 n2 e => k.keep b o n1 n2 (fun q => by rw [h b q] at e; cases e) e⟩

theorem Sat.bumpF {wr : List Addr} {s : Shared} {h' : Heap} {tk : Nat} (hs : Sat C ρ s) (hf : Flat ρ) (hk : ∀ b o, b ∉ wr → s.heap.get? b = some o → h'.get? b = some o)
    (hw : ∀ b ∈ wr, C.s₀.heap.get? b = none ∧ b ≠ C.env.locals ∧ (∀ y ∈ C.env.cells, y.2 ≠ b)) : Sat C ρ { s with heap := h', toks := tk } := by
  obtain ⟨h, tk', e⟩ := id hs.same
  obtain ⟨m, cm, hn, hc, hr⟩ := id hs.ex
  refine ⟨hs.ok, ⟨h', tk, by rw [e]⟩, fun b o x => hk b o (fun q => ?_) (hs.keep b o x), m, cm, hn.at' fun o x => hk _ o (fun q => (hw _ q).2.1 rfl) x, fun y hy => ?_, fun y a x => ?_⟩
  · rw [(hw b q).1] at x; cases x
  · obtain ⟨oc, ho, hd⟩ := hc y hy
    exact ⟨oc, hk _ _ (fun q => (hw _ q).2.2 y hy rfl) ho, hd⟩
  · obtain ⟨v, e1, r⟩ := hr y a x
    exact ⟨v, e1, flatA_rep (hf.at x) r⟩
theorem Sat.up {x : Str} {a : Addr} {b : AV} {s : Shared} (hs : Sat C ρ s) (e : ρ.lookup x = some (.b (.ref a))) (r : Rep s.heap (.ref a) b) : Sat C ((x, b) :: ρ) s := by
  obtain ⟨m, cm, hn, hc, hr⟩ := id hs.ex
  refine ⟨hs.ok, hs.same, hs.keep, m, cm, hn, hc, fun y c h => ?_⟩
  rw [List.lookup_cons] at h
  by_cases hy : y = x
  · subst hy
    rw [beq_self_eq_true] at h; cases h
    obtain ⟨v, e1, r1⟩ := hr y _ e
    have : v = .ref a := r1
    subst this
    exact ⟨_, e1, r⟩
  · rw [beq_eq_false_iff_ne.mpr hy] at h
    exact hr y c h
/-- a list's own pointer, out of its name -/
theorem Sat.down {x : Str} {xs : List Int} {s : Shared} (hs : Sat C ρ s) (e : ρ.lookup x = some (.b (.zs xs))) : ∃ (a : Addr) (vs : List Value), s.heap.PlainList a vs.toArray ∧ IntsAre vs xs ∧ Sat C ((x, .b (.ref a)) :: ρ) s := by
  obtain ⟨m, cm, hn, hc, hr⟩ := id hs.ex
  obtain ⟨v, e1, a, vs, rfl, pl, ia⟩ := hr x _ e
  refine ⟨a, vs, pl, ia, hs.ok, hs.same, hs.keep, m, cm, hn, hc, fun y c h => ?_⟩
  rw [List.lookup_cons] at h
  by_cases hy : y = x
  · subst hy
    rw [beq_self_eq_true] at h; cases h
    exact ⟨_, e1, rfl⟩
  · rw [beq_eq_false_iff_ne.mpr hy] at h
    exact hr y c h
theorem RL.mk {h : Heap} {a : Addr} {vs : List Value} {xs : List Int} (p : h.PlainList a vs.toArray) (i : IntsAre vs xs) : RL h (.ref a) xs := ⟨a, vs, rfl, p, i⟩

theorem plain_set {prog : Program} {w : World} {A : Around} {s : Shared} {D : Addr} {vs : List Value} {k : Int} {t : Tok} {v : Value} {Q : Unit → Shared → Prop} (pl : s.heap.PlainList D vs.toArray) (h0 : 0 ≤ k) (hk : k < vs.length) (hz : vs.length ≤ 1000000)
    (hQ : ∀ h', h'.PlainList D (vs.set k.toNat v).toArray → Heap.SameBut D s.heap h' → Q () { s with heap := h' }) : wpAny (model prog w) A (setItem (.ref D) (.int k t) v) Q nE s := by
  obtain ⟨n, e⟩ := pl
  refine ki_setAt e h0 (by omega) (by rw [List.size_toArray]; exact hk) ?_
  have h1 := IsL.update e (·.setIfInBounds k.toNat v)
  have e1 : (vs.set k.toNat v).toArray = vs.toArray.setIfInBounds k.toNat v := by apply Array.toList_inj.mp; simp
  have h2 : (s.heap.update D (Obj.mapSeq (·.setIfInBounds k.toNat v))).PlainList D (vs.set k.toNat v).toArray := by
    rw [e1]; exact ⟨_, h1⟩
  exact hQ _ h2 (Heap.SameBut.update ..)
theorem plain_get {prog : Program} {w : World} {A : Around} {s : Shared} {D : Addr} {vs : List Value} {xs : List Int} {k : Int} {t : Tok} {Q : Value → Shared → Prop} (pl : s.heap.PlainList D vs.toArray) (ia : IntsAre vs xs) (h0 : 0 ≤ k) (hk : k < xs.length) (hz : xs.length ≤ 1000000)
    (hQ : ∀ u, Q (.int (xs.getD k.toNat 0) u) s) : wpAny (model prog w) A (getItem (.ref D) (.int k t)) Q nE s := by
  have hlt : k.toNat < xs.length := by omega
  obtain ⟨u, hv⟩ := ia.get k.toNat xs[k.toNat] (by simp [hlt])
  refine wpAny_getItem_list pl.isList h0 (by omega) (by simpa using hv) ?_
  have := hQ u
  rwa [show xs.getD k.toNat 0 = xs[k.toNat] by simp [List.getD, hlt]] at this

/-- [x] * n: the list is new -/
theorem rep_new {s : Shared} {l r : Expr} {p : Pos} {xs : List Int} {n : Int} {Q : Value → Shared → Prop} (h1 : Ev C ρ l (.b (.zs xs))) (h2 : Ev C ρ r (.b (.int n))) (hn : n ≤ 1000) (hn' : -1000000 ≤ n) (hz : xs.length ≤ 1000) (hs : Sat C ρ s)
    (hQ : ∀ s1 s2 (D : Addr) (vs : List Value), Kp s s1 → Kp s1 s2 → s1.heap.get? D = none → s2.heap.PlainList D vs.toArray → IntsAre vs (List.replicate n.toNat xs).flatten → Q (.ref D) s2) :
    wpAny (model pg C.w) C.A (eval (.BinOp l .Mult r p) C.env) Q nE s := by
  refine wpAny_BinOp (h1 s _ hs fun u s1 k1 r1 => h2 s1 _ (hs.keeps k1) fun v s2 k2 r2 => ?_)
  replace r1 := r1.ks k2.ks
  obtain ⟨a, us, rfl, ⟨k, e⟩, i⟩ := r1; obtain ⟨t, rfl⟩ := r2
  have hb : us.toArray.size * n.toNat ≤ 1000 * 1000 := Nat.mul_le_mul (by rw [List.size_toArray, i.length]; exact hz) (by omega)
  have hb' : us.length * n.toNat ≤ 1000 * 1000 := Nat.mul_le_mul (by rw [i.length]; exact hz) (by omega)
  refine wpAny_binaryOp_repeat_ref (T := "list") (U := "int") (by decide) ⟨_, e, rfl⟩ (fun s' => typeIs_int s' n t) noFill_list_mul F.fills_int_mul F.slot_int_rmul repeat_list F.slot_int_index.lookup
    (call_meets F.slot_int_rmul (typeIs_int s2 n t) F.entry_int_rmul (F.args_int_rmul_2 _ _) (int___rmul___int_list n t a us.toArray k)
      ⟨e, rfl, ⟨_, e, rfl⟩, call_meets F.slot_list_mul ⟨_, e, rfl⟩ F.entry_list_mul (F.args_list_mul_2 _ _)
        (AutoListH.list___mul___list_int_3 a us.toArray k n t (by simp [Builtin.List.listFitsIndex]; omega) (by omega) (by simp [Builtin.List.listTooLong, sizeLine]; omega))
        ⟨e, ?_⟩⟩)
  refine hQ s2 _ _ (List.replicate n.toNat us).flatten (k1.trans k2) (Kp.push _ _) (new_none (Nat.le_refl _)) ⟨0, ?_⟩ (ints_rep i _)
  have := Heap.get?_push_size s2.heap (o := { cls := Value.type "list", data := Data.seq (List.foldl (fun x1 x2 => x1 ++ x2) #[] (List.replicate (if us.toArray.isEmpty = true then 0 else n.toNat) us.toArray)) }) rfl
  exact this.trans (by rw [listMul_foldl_if])
end
end Mine
end

local macro_rules | `(tactic| walk_at "kd2") => `(tactic| exact Mine.kdsc (by first | exact Or.inl rfl | exact Or.inr ⟨rfl, rfl⟩) (Mine.kds1 (by first | exact Or.inl rfl | exact Or.inr ⟨rfl, rfl⟩)))
local macro_rules | `(tactic| walk_at "kd3") => `(tactic| exact Mine.kdsc (by first | exact Or.inl rfl | exact Or.inr ⟨rfl, rfl⟩) (Mine.kdsc (by first | exact Or.inl rfl | exact Or.inr ⟨rfl, rfl⟩) (Mine.kds1 (by first | exact Or.inl rfl | exact Or.inr ⟨rfl, rfl⟩))))
local macro_rules | `(tactic| walk_at "kd5") => `(tactic| exact Mine.kdsc (by first | exact Or.inl rfl | exact Or.inr ⟨rfl, rfl⟩) (Mine.kdsc (by first | exact Or.inl rfl | exact Or.inr ⟨rfl, rfl⟩) (Mine.kdsc (by first | exact Or.inl rfl | exact Or.inr ⟨rfl, rfl⟩) (Mine.kdsc (by first | exact Or.inl rfl | exact Or.inr ⟨rfl, rfl⟩) (Mine.kds1 (by first | exact Or.inl rfl | exact Or.inr ⟨rfl, rfl⟩))))))
section
set_option maxRecDepth 100000
namespace Mine
open PySem PySem.W PySem.Calls PyProof.Rows

section
variable {C : Act} {ρ : Loc}
/-- enumerate upon a pointer -/
theorem ev_enumP {e : Expr} {p q : Pos} {l : Addr} {vs : List Value} {s : Shared} {Q : Value → Shared → Prop} (hg : Gb "enumerate" (.type "enumerate")) (h : Evs C ρ [e] [.b (.ref l)]) (pl : s.heap.PlainList l vs.toArray) (hs : Sat C ρ s) (hg' : C.env.kindOf "enumerate" = some .globalImplicit)
    (hQ : ∀ sB s2, Kp s sB → Kp sB s2 → IsEnum s2.heap (sB.heap.objs.size + 1) sB.heap.objs.size 0 .none → s2.heap.IsListIter sB.heap.objs.size l 0 → Q (.ref (sB.heap.objs.size + 1)) s2) :
    wpAny (model pg C.w) C.A (eval (.Call (.Name "enumerate" p) [e] [] q) C.env) Q nE s := by
  refine wpAny_Call_NameR (ev_builtin hg hs hg' (by decide) ?_)
  refine PySem.callWith_type (backTo_plain h.1) (h.args hs fun us s1 k1 r1 => ?_)
  obtain _ | ⟨r, _ | _⟩ := r1
  have r' : _ = Value.ref l := r
  subst r'
  obtain ⟨n, en⟩ := plain_ks k1.ks pl
  refine call_enumerate_1 en fun h' he hit hsz hk => ?_
  exact hQ s1 _ k1 ⟨h', s1.toks, rfl, hk⟩ he hit

/-- a loop over enumerate(a list held by a pointer), the lists of X changed -/
theorem forP {xi xv : Str} {pi pv tp p q pos : Pos} {x1 : Nat} {e : Expr} {body : List Stmt} {l : Addr} {vs : List Value} {xs : List Int} {s : Shared} {X : List Addr} {Q : Flow → Shared → Prop} (hf : Flat ρ) (G : Nat → Heap → Prop) (h : Evs C ρ [e] [.b (.ref l)]) (pl : s.heap.PlainList l vs.toArray) (ia : IntsAre vs xs) (hs : Sat C ρ s)
    (hX : ∀ b ∈ X, ∃ us, s.heap.PlainList b us) (hlX : l ∉ X)
    (hG : ∀ i h h', G i h → (∀ b ∈ X, ∀ o, h.get? b = some o → h'.get? b = some o) → G i h') (h0 : G 0 s.heap)
    (turn : ∀ (i : Nat) (n : Int) s1, xs[i]? = some n → Sat C ((xv, .b (.int n)) :: (xi, .b (.int i)) :: ρ) s1 → KX C X s s1 → G i s1.heap → wpAny (model pg C.w) C.A (execs body C.env) (fun fl s2 => fl = .next ∧ Sat C ρ s2 ∧ KX C X s1 s2 ∧ G (i + 1) s2.heap) nE s1)
    (done : ∀ s1, Sat C ρ s1 → KX C X s s1 → G xs.length s1.heap → Q .next s1)
    (hki : Kd C xi) (hkv : Kd C xv) (hg' : C.env.kindOf "enumerate" = some .globalImplicit) (hsub : ∀ i n, Sub ρ ((xv, .b (.int n)) :: (xi, .b (.int i)) :: ρ)) :
    wpAny (model pg C.w) C.A (exec (.For (.Tuple [.Name xi pi, .Name xv pv] x1 tp) (.Call (.Name "enumerate" p) [e] [] q) body [] pos) C.env) Q nE s := by
  refine wpAny_For (ev_enumP gb_enumerate h pl hs hg' fun sB s2 k1 k2 he hit => ?_)
  have hB := hs.keeps k1
  refine wpAny_pyIter_enum he ?_
  obtain ⟨n0, en⟩ := plain_ks k1.ks pl
  have hlt := Heap.lt_size en
  have hl2 : s2.heap.IsList l vs.toArray := (show s2.heap.PlainList l vs.toArray from ⟨n0, k2.get _ _ en⟩).isList
  have newE : sB.heap.get? (sB.heap.objs.size + 1) = none := new_none (Nat.le_succ _)
  have newI : sB.heap.get? sB.heap.objs.size = none := new_none (Nat.le_refl _)
  have offE := hB.offNew newE
  have offI := hB.offNew newI
  have offl := hB.off en
  have s0none : ∀ b, sB.heap.get? b = none → C.s₀.heap.get? b = none := fun b hb => by
    cases e : C.s₀.heap.get? b with
    | none => rfl
    | some o => have := hB.keep b o e; rw [hb] at this; cases this
  have hXB : ∀ b ∈ X, ∃ us, sB.heap.PlainList b us := fun b hb => let ⟨us, n, e⟩ := hX b hb; ⟨us, n, k1.get _ _ e⟩
  have eX : sB.heap.objs.size + 1 ∉ X := fun q => by obtain ⟨us, n, e⟩ := hXB _ q; rw [newE] at e; cases e
  have iX : sB.heap.objs.size ∉ X := fun q => by obtain ⟨us, n, e⟩ := hXB _ q; rw [newI] at e; cases e
  have bump : ∀ i (s1 : Shared) h' tk, (KX C X sB s1 ∧ Sat C ρ s1 ∧ G i s1.heap) → (∃ k old, IsEnum s1.heap (sB.heap.objs.size + 1) sB.heap.objs.size k old) → (∃ j, s1.heap.IsListIter sB.heap.objs.size l j) → (∀ b o, b ≠ sB.heap.objs.size + 1 → b ≠ sB.heap.objs.size → s1.heap.get? b = some o → h'.get? b = some o) →
      (KX C X sB { s1 with heap := h', toks := tk } ∧ Sat C ρ { s1 with heap := h', toks := tk } ∧ G i h') := by
    rintro i s1 h' tk ⟨kx, sat, g⟩ _ _ hk
    refine ⟨?_, ?_, hG i _ _ g fun b hb o e => hk b o (fun q => eX (q ▸ hb)) (fun q => iX (q ▸ hb)) e⟩
    · obtain ⟨⟨g, t, rfl⟩, hkf⟩ := kx
      exact ⟨⟨h', tk, rfl⟩, fun b o n1 n2 n3 e => hk b o (fun q => by rw [q, newE] at e; cases e) (fun q => by rw [q, newI] at e; cases e) (hkf b o n1 n2 n3 e)⟩
    · refine sat.bumpF hf (wr := [sB.heap.objs.size + 1, sB.heap.objs.size]) (fun b o hb e => hk b o (fun q => hb (by rw [q]; exact List.mem_cons_self)) (fun q => hb (by rw [q]; exact List.mem_cons_of_mem _ List.mem_cons_self)) e) ?_
      intro b hb
      rcases List.mem_cons.mp hb with rfl | hb
      · exact ⟨s0none _ newE, offE.1, offE.2⟩
      · cases List.mem_singleton.mp hb
        exact ⟨s0none _ newI, offI.1, offI.2⟩
  refine forT hs.ok.handled (Nat.succ_ne_self _) (Nat.ne_of_lt (Nat.lt_succ_of_lt hlt)) (Nat.ne_of_lt hlt) (fun i s1 => KX C X sB s1 ∧ Sat C ρ s1 ∧ G i s1.heap) ⟨k2.kx, hB.keeps k2, hG 0 _ _ h0 fun b hb o e => k2.get b o (k1.get b o e)⟩ he hit hl2 bump ?_ ?_
  · rintro i t x s1 hx ⟨kx, sat, g⟩
    have hx' : vs[i]? = some x := by simpa using hx
    have hltx : i < xs.length := by rw [← ia.length]; exact (List.getElem?_eq_some_iff.mp hx').1
    obtain ⟨t', hv⟩ := ia.get i xs[i] (by simp [hltx])
    have hxe : x = .int xs[i] t' := by rw [hv] at hx'; exact (Option.some.inj hx').symm
    have hXl : ∀ s', KX C X sB s' → Sat C ρ s' → ∀ b ∈ X, b ≠ C.env.locals ∧ ∀ y ∈ C.env.cells, y.2 ≠ b := fun s' _ _ b hb => by
      obtain ⟨us, n, e⟩ := hXB b hb
      exact hB.off e
    refine store_ (a := .b (.int i)) sat ⟨t, rfl⟩ hki fun s3 sat3 k3 => ?_
    refine store_ (a := .b (.int xs[i])) sat3 ⟨t', hxe⟩ hkv fun s4 sat4 k4 => ?_
    have k34 := k3.trans k4
    have g4 : G i s4.heap := hG i _ _ g fun b hb o e => k34.2 b o (hXl s1 kx sat b hb).1 (hXl s1 kx sat b hb).2 e
    have kx4 : KX C X s s4 := (k1.kx.trans kx).trans k34.kx
    refine wpAny_mono (turn i xs[i] s4 (by simp [hltx]) sat4 kx4 g4) (fun fl s5 h5 => ?_) fun _ _ e => e
    obtain ⟨rfl, sat5, kx5, g5⟩ := h5
    refine ⟨⟨(kx.trans k34.kx).trans kx5, sat5, g5⟩, fun b hb o e => ?_⟩
    have go : ∀ b, (b ≠ C.env.locals ∧ ∀ y ∈ C.env.cells, y.2 ≠ b) → b ∉ X → s1.heap.get? b = some o → s5.heap.get? b = some o := fun b hb1 hb2 e => kx5.keep b o hb1.1 hb1.2 hb2 (k34.2 b o hb1.1 hb1.2 e)
    rcases List.mem_cons.mp hb with rfl | hb
    · exact go _ offE eX e
    · rcases List.mem_cons.mp hb with rfl | hb
      · exact go _ offI iX e
      · cases List.mem_singleton.mp hb
        exact go _ offl hlX e
  · rintro s1 ⟨kx, sat, g⟩
    rw [List.size_toArray, ia.length] at g
    exact done s1 sat (k1.kx.trans kx) g

theorem plain_keepX {D c : Addr} {us : List Value} {s s' : Shared} (sat : Sat C ρ s) (kx : KX C [D] s s') (hne : c ≠ D) (h : s.heap.PlainList c us.toArray) : s'.heap.PlainList c us.toArray := by
  obtain ⟨n, e⟩ := h
  have off := sat.off e
  exact ⟨n, kx.keep c _ off.1 off.2 (fun q => hne (List.mem_singleton.mp q)) e⟩
theorem ints_setK {x : Int} {u : Tok} {vs : List Value} {ns : List Int} (h : IntsAre vs ns) (j : Nat) : IntsAre (vs.set j (.int x u)) (ns.set j x) := ints_set h j
/-- found[p] += v, found held by a pointer -/
theorem aug_item {o i value : Expr} {tpos pos : Pos} {D : Addr} {us : List Value} {cur : List Int} {p v : Int} {s : Shared} {Q : Flow → Shared → Prop} (hf : Flat ρ) (ho : Ev C ρ o (.b (.ref D))) (hi : Ev C ρ i (.b (.int p))) (hv : Ev C ρ value (.b (.int v)))
    (hs : Sat C ρ s) (pl : s.heap.PlainList D us.toArray) (ia : IntsAre us cur) (h0 : 0 ≤ p) (h1 : p < cur.length) (hz : cur.length ≤ 1000000) (hD : C.s₀.heap.get? D = none)
    (hst : ∀ ov iv new, augStore i ov iv new = (do holding [new, ov, iv] (setItem ov iv new); release [new, ov, iv] []; pure .next))
    (hQ : ∀ s' us', Sat C ρ s' → KX C [D] s s' → s'.heap.PlainList D us'.toArray → IntsAre us' (addAt cur p.toNat v) → Q .next s') :
    wpAny (model pg C.w) C.A (exec (.AugAssign (.Subscript o i tpos) .Add value pos) C.env) Q nE s := by
  refine wpAny_AugAssign_SubscriptAny ?_ hst
  refine ho s _ hs fun ov s1 k1 r1 => hi s1 _ (hs.keeps k1) fun iv s2 k2 r2 => ?_
  have r1' : ov = .ref D := r1
  subst r1'
  obtain ⟨t, rfl⟩ := r2
  have pl2 := plain_ks (k1.trans k2).ks pl
  refine plain_get pl2 ia h0 h1 hz fun u => ?_
  refine hv s2 _ ((hs.keeps k1).keeps k2) fun w s3 k3 r3 => ?_
  obtain ⟨t3, rfl⟩ := r3
  refine wpAny_iadd_int ?_
  have k4 : Kp s3 { s3 with toks := s3.toks + 1 } := Kp.tok _
  have k14 := ((k1.trans k2).trans k3).trans k4
  have sat4 := hs.keeps k14
  have pl4 : s3.heap.PlainList D us.toArray := plain_ks (((k1.trans k2).trans k3)).ks pl
  refine plain_set (s := { s3 with toks := s3.toks + 1 }) pl4 h0 (by rw [ia.length]; exact h1) (by rw [ia.length]; exact hz) fun h' pl' sb => ?_
  obtain ⟨n, en⟩ := id pl4
  have off := Sat.off (s := { s3 with toks := s3.toks + 1 }) sat4 en
  refine hQ _ _ (sat4.bumpF hf (wr := [D]) (fun b o hb e => sb.extBut b o (fun q => hb (by rw [q]; exact List.mem_singleton.mpr rfl)) e) ?_) ?_ pl' (ints_setK ia _)
  · intro b hb
    cases List.mem_singleton.mp hb
    exact ⟨hD, off.1, off.2⟩
  · refine k14.kx.trans ⟨⟨h', s3.toks + 1, rfl⟩, fun b o n1 n2 n3 e => sb.extBut b o (fun q => n3 (by rw [q]; exact List.mem_singleton.mpr rfl)) e⟩
end

theorem c_zmul {xs ys : List Int} (hx : xs.length ≤ 400) (hy : ys.length ≤ 400) (sx : SmL xs) (sy : SmL ys) : Fn 1 124 [.b (.zs xs), .b (.zs ys)] (.b (.zs (mulL xs ys))) := by
  refine Fn.enter ["a", "b"] (fun w => by walk_at "ent") (fun w => by walk_at "entc") (bind2 fun v u => by rfl) (by rfl) (by decide) rfl ?_
  intro w A L s₀ ok
  refine Ex.ifelse (Tr.or (Tr.cmp (Ev.callB gb_len (Evs.cons Ev.name .nil) (Bn.len (by omega))) Ev.int Cmp.eq) fun _ => Tr.cmp (Ev.callB gb_len (Evs.cons Ev.name .nil) (Bn.len (by omega))) Ev.int Cmp.eq) (fun h => Ex.ret (Ev.listI (xs := []) .nil) ?_) (fun h => Ex.nil ?_)
  · show _ = _
    unfold mulL
    rw [if_pos (by simpa using h)]
  · have hne : ¬ (xs.length = 0 ∨ ys.length = 0) := by simpa using h
    intro s Q hs hQ
    -- the two lists by their pointers
    obtain ⟨pa, vsa, pla, iaa, hsa⟩ := hs.down (x := "a") rfl
    obtain ⟨pb, vsb, plb, iab, hsb⟩ := hsa.down (x := "b") rfl
    refine wpAny_execs_cons (wpAny_Assign_Name (rep_new (Ev.listI (xs := [0]) (Evs.cons Ev.int .nil)) (Ev.sub (Ev.add (Ev.callB gb_len (Evs.cons Ev.name .nil) (Bn.len (by omega))) (Ev.callB gb_len (Evs.cons Ev.name .nil) (Bn.len (by omega)))) Ev.int) (by omega) (by omega) (by decide) hs fun s1 s2 D vs k1 k2 hD pl ia => ?_))
    have sat2 := (hsb.keeps k1).keeps k2
    refine store_ (a := .b (.ref D)) sat2 rfl (Or.inl rfl) fun s3 sat3 k3 => ?_
    show wpAny _ _ (execs _ _) _ _ _
    have k23 := sat2.ks k3
    have pl3 := plain_ks k23 pl
    have pla3 := plain_ks k23 (plain_ks (k1.trans k2).ks pla)
    have plb3 := plain_ks k23 (plain_ks (k1.trans k2).ks plb)
    have hlen : (((xs.length : Int) + (ys.length : Int) - 1).toNat) = xs.length + ys.length - 1 := by omega
    rw [hlen, flat_rep] at ia
    have naD : pa ≠ D := fun q => by
      obtain ⟨n, e⟩ := pla
      have := k1.get _ _ e
      rw [q, hD] at this
      cases this
    have nbD : pb ≠ D := fun q => by
      obtain ⟨n, e⟩ := plb
      have := k1.get _ _ e
      rw [q, hD] at this
      cases this
    have hD0 : s₀.heap.get? D = none := by
      cases e : s₀.heap.get? D with
      | none => rfl
      | some o => have := (hs.keeps k1).keep D o e; rw [hD] at this; cases this
    let ρp : Loc := [("found", .b (.ref D)), ("b", .b (.ref pb)), ("a", .b (.ref pa))]
    have satp : Sat _ ρp s3 := sat3.weaken (by walk_at "sub")
    have hfl : Flat ρp := rfl
    refine wpAny_execs_cons (forP (ρ := ρp) hfl (fun i h => ∃ us, h.PlainList D us.toArray ∧ IntsAre us (outerL xs ys i)) (Evs.cons Ev.name .nil) pla3 iaa satp (X := [D]) ?_ ?_ ?_ ⟨vs, pl3, ia⟩ ?_ ?_ (Or.inl rfl) (Or.inl rfl) rfl (fun i n => by walk_at "sub"))
    · intro b hb; cases List.mem_singleton.mp hb; exact ⟨_, pl3⟩
    · exact fun q => naD (List.mem_singleton.mp q)
    · rintro i h h' ⟨us, ⟨n, e⟩, iu⟩ hk
      exact ⟨us, ⟨n, hk D (List.mem_singleton.mpr rfl) _ e⟩, iu⟩
    · rintro i n s4 hn sat4 kx4 ⟨us, plD, iD⟩
      have hi : i < xs.length := (List.getElem?_eq_some_iff.mp hn).1
      have hgd : xs.getD i 0 = n := by simp [List.getD, hn]
      have hnx : n ∈ xs := List.mem_of_getElem? hn
      refine wpAny_execs_cons (wpAny_If ?_)
      refine Tr.run (ρ := ("left", .b (.int n)) :: ("one", .b (.int i)) :: ρp) (Tr.cmp Ev.name Ev.int Cmp.ne) sat4 fun s5 k5 => ?_
      have sat5 := sat4.keeps k5
      have plD5 := plain_ks k5.ks plD
      cases hb : (n != 0) with
      | false =>
        simp only [Bool.false_eq_true, if_false]
        refine wpAny_execs_nil (wpAny_execs_nil ⟨rfl, sat5.weaken (by walk_at "sub"), k5.kx, us, plD5, ?_⟩)
        rw [outerL_succ, hgd, hb]
        exact iD
      | true =>
        simp only [if_true]
        have plb5 : s5.heap.PlainList pb vsb.toArray := plain_ks k5.ks (plain_keepX satp kx4 nbD plb3)
        refine wpAny_execs_cons (forP (ρ := ("left", .b (.int n)) :: ("one", .b (.int i)) :: ρp) rfl (fun j h => ∃ us, h.PlainList D us.toArray ∧ IntsAre us (innerL (outerL xs ys i) i n ys j)) (Evs.cons Ev.name .nil) plb5 iab sat5 (X := [D]) ?_ ?_ ?_ ⟨us, plD5, iD⟩ ?_ ?_ (Or.inl rfl) (Or.inl rfl) rfl (fun i n => by walk_at "sub"))
        · intro b hb; cases List.mem_singleton.mp hb; exact ⟨_, plD5⟩
        · exact fun q => nbD (List.mem_singleton.mp q)
        · rintro i h h' ⟨us, ⟨n, e⟩, iu⟩ hk
          exact ⟨us, ⟨n, hk D (List.mem_singleton.mpr rfl) _ e⟩, iu⟩
        · rintro j r s6 hr sat6 kx6 ⟨us6, plD6, iD6⟩
          have hj : j < ys.length := (List.getElem?_eq_some_iff.mp hr).1
          have hgr : ys.getD j 0 = r := by simp [List.getD, hr]
          refine wpAny_execs_cons (aug_item (ρ := ("right", .b (.int r)) :: ("other", .b (.int j)) :: ("left", .b (.int n)) :: ("one", .b (.int i)) :: ρp) rfl Ev.name (Ev.add Ev.name Ev.name) (Ev.mul Ev.name Ev.name (sx n hnx) (sy r (List.mem_of_getElem? hr))) sat6 plD6 iD6 (by omega) (by rw [innerL_length, outerL_length]; omega) (by rw [innerL_length, outerL_length]; omega) hD0 (by intros; rfl) fun s7 us7 sat7 kx7 pl7 i7 => ?_)
          refine wpAny_execs_nil ⟨rfl, sat7.weaken (by walk_at "sub"), kx7, us7, pl7, ?_⟩
          rw [innerL_succ, hgr]
          have e : ((i : Int) + (j : Int)).toNat = i + j := by omega
          rw [e] at i7
          exact i7
        · rintro s6 sat6 kx6 ⟨us6, plD6, iD6⟩
          refine wpAny_execs_nil (wpAny_execs_nil ⟨rfl, sat6.weaken (by walk_at "sub"), k5.kx.trans kx6, us6, plD6, ?_⟩)
          rw [outerL_succ, hgd, hb]
          exact iD6
    · rintro s4 sat4 kx4 ⟨us, plD, iD⟩
      refine wpAny_execs_cons (wpAny_Return_some ?_)
      refine Ev.run (ρ := ("found", .b (.zs (outerL xs ys xs.length))) :: ρp) Ev.name (sat4.up (b := .b (.zs (outerL xs ys xs.length))) rfl (RL.mk plD iD)) fun v s5 k5 r5 => ?_
      have kf1 := Kf.trans (Kp.kf (k1.trans k2)) k3
      refine hQ (.ret (.b (.zs (mulL xs ys)))) _ s5 rfl ?_ ⟨v, rfl, ⟨ρp, sat4.keeps k5⟩, ?_⟩
      · refine ⟨?_, fun b o n1 n2 e => ?_⟩
        · obtain ⟨h1, t1, e1⟩ := kf1.1
          obtain ⟨h2, t2, e2⟩ := kx4.same
          obtain ⟨h3, t3, e3, _⟩ := k5
          exact ⟨h3, t3, by rw [e3, e2, e1]⟩
        · have hbD : b ≠ D := fun q => by
            have := k1.get b o e
            rw [q, hD] at this
            cases this
          exact k5.get b o (kx4.keep b o n1 n2 (fun q => hbD (List.mem_singleton.mp q)) (kf1.2 b o n1 n2 e))
      · have em : mulL xs ys = outerL xs ys xs.length := by unfold mulL; rw [if_neg hne]
        rw [em]; exact r5
end Mine
end

section
namespace Mine
open PySem PySem.W PySem.Calls PyProof.Rows

section
/-- a comprehension's loop over enumerate(list) -/
theorem compT {prog : Program} {w : World} {A : Around} {env : Env} {R : Result → Shared → Prop} {xi xv : Str} {pi pv tp p : Pos} {x1 : Nat} {elt iter : Expr} {scope : Scope} {e it l D : Addr} {items : Array Value} (hh : A.handled = none) (hei : e ≠ it) (hle : l ≠ e) (hli : l ≠ it)
    (Inv : Nat → Shared → Prop) {s2 : Shared} (h0 : Inv 0 s2) (he : IsEnum s2.heap e it 0 .none) (hit : s2.heap.IsListIter it l 0) (hl : s2.heap.IsList l items)
    (bump : ∀ i s h' tk, Inv i s → (∀ b o, b ≠ e → b ≠ it → s.heap.get? b = some o → h'.get? b = some o) → Inv i { s with heap := h', toks := tk })
    (turn : ∀ i t x s1, items[i]? = some x → Inv i s1 → wpAny (model prog w) A (storeName env xi (.int i t)) (fun _ s2 => wpAny (model prog w) A (storeName env xv x) (fun _ s3 => wpAny (model prog w) A (eval elt env) (fun y s4 =>
      wpAny (model prog w) A (PySem.call (.builtin "list.append") [.ref D, y]) (fun _ s5 => Inv (i + 1) s5 ∧ (∀ b ∈ [e, it, l], ∀ o, s1.heap.get? b = some o → s5.heap.get? b = some o)) nE s4) nE s3) nE s2) nE s1)
    (done : ∀ s1, Inv items.size s1 → R (.ok .next) s1) : codeAny (model prog w) A (.compLoop (.ListComp elt [⟨.Tuple [.Name xi pi, .Name xv pv] x1 tp, iter, [], 0⟩] scope p) 0 (.ref e) (.ref D) env) R s2 := by
  have W := WalksT.enumerate (prog := prog) (w := w) hh e it l hei hle hli items
  refine codeAny_loop rfl (fun k s' => ∃ i, i ≤ items.size ∧ k = items.size + 1 - i ∧ Inv i s' ∧ ((∃ old, IsEnum s'.heap e it (i : Nat) old) ∧ s'.heap.IsListIter it l i ∧ s'.heap.IsList l items)) (fun k s1 hI => ?_) (items.size + 1) ⟨0, Nat.zero_le _, rfl, h0, ⟨.none, he⟩, hit, hl⟩
  obtain ⟨i, hi, rfl, hInv, hst⟩ := hI
  show wpAny _ A ((compTurn (.ListComp elt [⟨.Tuple [.Name xi pi, .Name xv pv] x1 tp, iter, [], 0⟩] scope p) 0 (.ref e) (.ref D) env).onRaise (fun x => do noteFrame x env; theTreesLotGoes x)) _ _ s1
  refine wpAny_noted ?_
  rw [compTurn_list]
  have hw : ∀ b, b ≠ e → b ≠ it → b ∉ [e, it] := fun b h1 h2 hb => by
    rcases List.mem_cons.mp hb with h | hb
    · exact h1 h
    · exact h2 (List.mem_singleton.mp hb)
  by_cases hlt : i < items.size
  · refine wpAny_bind (wpAny_standAt (wpAny_bind (W.item i s1 _ _ hlt hst fun T vals h' tk hP hT ht hm hk => ?_)))
    obtain ⟨t, x, hx, rfl⟩ := hP
    have hTw := W.apart i T h' hm
    refine wpAny_bind (W.go _ _ _ i T _ _ _ hm fun h'' hst' hk' => ?_)
    have ht' : h''.IsTuple T #[.int i t, x] := by obtain ⟨o, ho, r⟩ := ht; exact ⟨o, hk' T o hTw ho, r⟩
    refine wpAny_bind (of_nE (unpack2 hh ht' fun h3 he3 => ?_))
    have he3' : ∀ b o, h''.get? b = some o → h3.get? b = some o := fun b o e => he3 b o (Nat.ne_of_lt (Heap.lt_size e)) e
    have hInv' : Inv i { s1 with heap := h3, toks := tk } := bump i s1 h3 tk hInv fun b o h1 h2 e => he3' b o (hk' b o (hw b h1 h2) (hk b o (hw b h1 h2) e))
    refine wpAny_mono (turn i t x _ hx hInv') (fun _ s4 h4 => wpAny_mono h4 (fun _ s5 h5 => ?_) fun _ _ e => e) fun _ _ e => e
    refine wpAny_bind (wpAny_tests_nil ?_)
    simp only [if_true]
    refine of_nE (wpAny_bind (wpAny_bind (wpAny_mono h5 (fun y s6 h6 => wpAny_bind (wpAny_mono h6 (fun _ s7 h7 => wpAny_pure (wpAny_pure ⟨rfl, ?_⟩)) fun _ _ e => e)) fun _ _ e => e)))
    refine ⟨items.size + 1 - (i + 1), by omega, i + 1, hlt, rfl, h7.1, ?_⟩
    exact W.frame (i + 1) h'' s7.heap hst' fun b hb o e => h7.2 b hb o (he3' b o e)
  · have e : i = items.size := by omega
    subst e
    refine wpAny_bind (wpAny_standAt (wpAny_bind (W.done s1 _ _ hst fun h' tk hk => wpAny_pure ?_)))
    exact done _ (bump _ s1 h' tk hInv fun b o h1 h2 e => hk b o (hw b h1 h2) e)
end

section
variable {C : Act} {ρ : Loc}
theorem inn_sat0 {scope : Scope} {Cn : Addr} {ρi : Loc} {s s3 : Shared} {m₃ : Str → Option Value} (hs : Sat C ρ s) (hkind : scope.kind = .function) (hCn : s.heap.get? Cn = none) (hk : ∀ b o, s.heap.get? b = some o → s3.heap.get? b = some o) (hn : s3.heap.Ns Cn m₃)
    (hρ : ∀ y a, ρi.lookup y = some a → (compEnvC scope [] Cn C.env).kindOf y = some .local ∧ ∃ v, m₃ y = some v ∧ Rep s3.heap v a) : Sat (inn C scope [] Cn { s3 with heap := C.s₀.heap }) ρi s3 := by
  have hnew : C.s₀.heap.get? Cn = none := by
    cases e : C.s₀.heap.get? Cn with
    | none => rfl
    | some o => have := hs.keep _ o e; rw [hCn] at this; cases this
  refine ⟨{ handled := hs.ok.handled, depth := hs.ok.depth, units := hs.ok.units, kind := hkind, glob := hs.ok.glob, bi := hs.ok.bi, top := hs.ok.top, apart := List.Pairwise.nil, newL := hnew, newC := fun y hy => (nomatch hy), names := List.nodup_nil }, ⟨s3.heap, s3.toks, rfl⟩, fun b o e => hk b o (hs.keep b o e), m₃, fun _ => none, hn, fun y hy => (nomatch hy), fun y a e => ?_⟩
  obtain ⟨h1, v, h2, h3⟩ := hρ y a e
  exact ⟨v, by unfold look; rw [if_pos h1]; exact h2, h3⟩
theorem Ev.compEnum (gb_enumerate' : Gb "enumerate" (.type "enumerate")) {e0 elt : Expr} {xi xv : Str} {pi pv tp p p1 q : Pos} {x1 : Nat} {scope : Scope} {xs : List Int} (F : Nat → Int → Int) (h : Evs C ρ [e0] [.b (.zs xs)]) (hz : xs.length ≤ 100000)
    (helt : ∀ Cn s₀ (i : Nat) (n : Int), xs[i]? = some n → Ev (inn C scope [] Cn s₀) [(xv, .b (.int n)), (xi, .b (.int i))] elt (.b (.int (F i n))))
    (hclos : closureFor scope C.env = pure [] := by with_unfolding_all rfl) (hcell : ∀ y ∈ scope.names, y.2 ≠ .cell := by decide) (hkind : scope.kind = .function := by rfl)
    (hnames : ∀ y ∈ scope.names, y.2 = .local → scope.names.lookup y.1 = some .local := by decide) (hxi : scope.names.lookup xi = some .local := by rfl) (hxv : scope.names.lookup xv = some .local := by rfl)
    (hg' : C.env.kindOf "enumerate" = some .globalImplicit := by rfl) :
    Ev C ρ (.ListComp elt [⟨.Tuple [.Name xi pi, .Name xv pv] x1 tp, .Call (.Name "enumerate" p1) [e0] [] q, [], 0⟩] scope p) (.b (.zs ((List.range xs.length).map fun i => F i (xs.getD i 0)))) := by
  intro s Q hs hQ
  rw [eval_ListComp]
  refine wpAny_comprehension_free (use := Option.none) rfl (fun _ => rfl) hclos hkind hnames (ev_enum gb_enumerate' h hs hg' fun sB s2 l vs k1 k2 pl ia he hit hsz2 => ?_)
  have hB := hs.keeps k1
  refine wpAny_pyIter_enum he ?_
  obtain ⟨n0, en⟩ := id pl
  have hlt := Heap.lt_size en
  have en2 := k2.get _ _ en
  have newE : sB.heap.get? (sB.heap.objs.size + 1) = Option.none := new_none (Nat.le_succ _)
  have newI : sB.heap.get? sB.heap.objs.size = Option.none := new_none (Nat.le_refl _)
  refine wpAny_newObj_type (wpAny_newFunctionEnv hcell (by intro y hy; simp at hy) (fun h₁ hns₁ hsb₁ => ?_) hkind)
  dsimp only at hns₁ hsb₁ ⊢
  generalize hH2 : s2.heap.push { cls := .type "list", dict := Option.none, data := .seq ([] : List Value).toArray } = H2 at hns₁ hsb₁ ⊢
  have hC : H2.objs.size = s2.heap.objs.size + 1 := by rw [← hH2, Heap.size_push]
  have below : ∀ b, b < s2.heap.objs.size → b ≠ H2.objs.size ∧ b ≠ s2.heap.objs.size := fun b hb => ⟨by rw [hC]; exact Nat.ne_of_lt (Nat.lt_succ_of_lt hb), Nat.ne_of_lt hb⟩
  have hDC : s2.heap.objs.size ≠ H2.objs.size := by rw [hC]; exact Nat.ne_of_lt (Nat.lt_succ_self _)
  have old : ∀ b o, s2.heap.get? b = some o → h₁.get? b = some o := fun b o e => hsb₁.extBut b o (below b (Heap.lt_size e)).1 (Heap.get?_push_of_some _ (hH2 ▸ Heap.get?_push_of_some _ e))
  have hacc : h₁.PlainList s2.heap.objs.size #[] := ⟨_, hsb₁.extBut _ _ hDC (Heap.get?_push_of_some _ (hH2 ▸ Heap.get?_push_size _ rfl))⟩
  have hsB : sB.heap.objs.size + 1 < s2.heap.objs.size := by rw [hsz2]; exact Nat.lt_succ_self _
  have hsB' : sB.heap.objs.size < s2.heap.objs.size := Nat.lt_of_succ_lt hsB
  have hCn : sB.heap.get? H2.objs.size = Option.none := by
    cases e : sB.heap.get? H2.objs.size with
    | none => rfl
    | some o => have := Heap.lt_size (k2.get _ o e); rw [hC] at this; exact absurd this (Nat.not_lt.mpr (Nat.le_succ _))
  have hDn : sB.heap.get? s2.heap.objs.size = Option.none := by
    cases e : sB.heap.get? s2.heap.objs.size with
    | none => rfl
    | some o => exact absurd (Heap.lt_size (k2.get _ o e)) (Nat.lt_irrefl _)
  have hk1i : (compEnvC scope [] H2.objs.size C.env).kindOf xi = some .local := lookup_relabel_local hxi
  have hk1v : (compEnvC scope [] H2.objs.size C.env).kindOf xv = some .local := lookup_relabel_local hxv
  have hpp : ((compEnvC scope [] H2.objs.size C.env).scope.kind == .class || ((compEnvC scope [] H2.objs.size C.env).scope.kind == .module && (compEnvC scope [] H2.objs.size C.env).locals != (compEnvC scope [] H2.objs.size C.env).globals)) = false := by
    show (scope.kind == .class || (scope.kind == .module && _)) = false
    rw [hkind]; rfl
  have loop : ∀ s₃ : Shared, s₃ = { s2 with heap := h₁, toks := s2.toks + ([] : List (Str × Value)).length } →
      codeAny (model pg C.w) C.A (.compLoop (.ListComp elt [⟨.Tuple [.Name xi pi, .Name xv pv] x1 tp, .Call (.Name "enumerate" p1) [e0] [] q, [], 0⟩] scope p) 0 (.ref (sB.heap.objs.size + 1)) (.ref s2.heap.objs.size) (compEnvC scope [] H2.objs.size C.env))
        (compPost (model pg C.w) C.A nE Option.none Q (.ref s2.heap.objs.size) H2.objs.size) s₃ := by
    rintro s₃ rfl
    refine compT hs.ok.handled (Nat.succ_ne_self _) (Nat.ne_of_lt (Nat.lt_succ_of_lt hlt)) (Nat.ne_of_lt hlt)
      (fun i s' => (∃ h tk, s' = { s2 with heap := h, toks := tk }) ∧ (∀ b o, sB.heap.get? b = some o → s'.heap.get? b = some o) ∧ (∃ m, s'.heap.Ns H2.objs.size m) ∧ ∃ ys : List Value, s'.heap.PlainList s2.heap.objs.size ys.toArray ∧ IntsAre ys ((List.range i).map fun j => F j (xs.getD j 0)))
      (items := vs.toArray) ⟨⟨_, _, rfl⟩, fun b o e => old b o (k2.get b o e), ⟨_, hns₁⟩, [], hacc, .nil⟩ (old _ _ he) (by obtain ⟨o, ho, r⟩ := hit; exact ⟨o, old _ _ ho, r⟩) (show h₁.IsList l vs.toArray from (show h₁.PlainList l vs.toArray from ⟨n0, old _ _ en2⟩).isList) ?_ ?_ ?_
    · rintro i s' h' tk ⟨⟨g, t, rfl⟩, hkB, ⟨m, hm⟩, ys, ⟨ny, ey⟩, iy⟩ hk
      refine ⟨⟨h', tk, rfl⟩, fun b o e => hk b o (fun q => by rw [q, newE] at e; cases e) (fun q => by rw [q, newI] at e; cases e) (hkB b o e), ⟨m, hm.at' fun o e => hk _ o ?_ ?_ e⟩, ys, ⟨ny, hk _ _ ?_ ?_ ey⟩, iy⟩
      · exact Ne.symm (below _ hsB).1
      · exact Ne.symm (below _ hsB').1
      · exact Ne.symm (below _ hsB).2
      · exact Ne.symm (below _ hsB').2
    · rintro i t x s' hx ⟨⟨g, tk, rfl⟩, hkB, ⟨m, hm⟩, ys, ⟨ny, ey⟩, iy⟩
      have hx' : vs[i]? = some x := by simpa using hx
      have hltx : i < xs.length := by rw [← ia.length]; exact (List.getElem?_eq_some_iff.mp hx').1
      obtain ⟨t', hv⟩ := ia.get i xs[i] (by simp [hltx])
      have hxe : x = .int xs[i] t' := by rw [hv] at hx'; exact (Option.some.inj hx').symm
      have hgd : xs.getD i 0 = xs[i] := by simp [List.getD, hltx]
      refine wpAny_storeName_local hk1i hm (fun h2 hn2 hs2 => ?_) hpp
      refine wpAny_storeName_local hk1v hn2 (fun h3 hn3 hs3 => ?_) hpp
      have hk3 : ∀ b o, b ≠ H2.objs.size → g.get? b = some o → h3.get? b = some o := fun b o hb e => hs3.extBut b o hb (hs2.extBut b o hb e)
      have offB : ∀ b o, sB.heap.get? b = some o → b ≠ H2.objs.size := fun b o e q => by rw [q, hCn] at e; cases e
      have sat := inn_sat0 (scope := scope) (Cn := H2.objs.size) (ρi := [(xv, .b (.int xs[i])), (xi, .b (.int i))]) (s3 := { s2 with heap := h3, toks := tk + 1 + 1 }) hB hkind hCn (fun b o e => hk3 b o (offB b o e) (hkB b o e)) hn3 (fun y a e => by
        simp only [List.lookup_cons, List.lookup_nil] at e
        by_cases h1 : y = xv
        · subst h1
          rw [beq_self_eq_true] at e; cases e
          exact ⟨hk1v, x, by simp, ⟨t', hxe⟩⟩
        · rw [beq_eq_false_iff_ne.mpr h1] at e
          by_cases h2 : y = xi
          · subst h2
            rw [beq_self_eq_true] at e; cases e
            exact ⟨hk1i, .int i t, by simp [h1], ⟨t, rfl⟩⟩
          · rw [beq_eq_false_iff_ne.mpr h2] at e; cases e)
      refine helt H2.objs.size _ i xs[i] (by simp [hltx]) _ _ sat fun y s4 k4 r4 => ?_
      obtain ⟨u, rfl⟩ := r4
      obtain ⟨h4, t4, rfl, hk4⟩ := k4
      have ey4 : h4.PlainList s2.heap.objs.size ys.toArray := ⟨ny, hk4 _ _ (hk3 _ _ hDC ey)⟩
      refine wpAny_list_append_plain (hsz := by rw [List.size_toArray, iy.length]; simp; exact sizeL (by omega)) ey4 fun h5 hl5 hs5 => ?_
      have offD : ∀ b o, sB.heap.get? b = some o → b ≠ s2.heap.objs.size := fun b o e q => by rw [q, hDn] at e; cases e
      refine ⟨⟨⟨h5, t4, rfl⟩, fun b o e => hs5.extBut b o (offD b o e) (hk4 b o (hk3 b o (offB b o e) (hkB b o e))), ⟨_, (hn3.keeps hk4).sameBut hs5 (Ne.symm hDC)⟩, ys ++ [.int (F i xs[i]) u], ?_, ?_⟩, fun b hb o e => ?_⟩
      · simpa using hl5
      · rw [List.range_succ, List.map_append, List.map_singleton, hgd]
        exact iy.append (.cons _ u .nil)
      · have hb2 : b < s2.heap.objs.size := by
          rcases List.mem_cons.mp hb with rfl | hb
          · exact hsB
          · rcases List.mem_cons.mp hb with rfl | hb
            · exact hsB'
            · cases List.mem_singleton.mp hb; exact Heap.lt_size en2
        exact hs5.extBut b o (below b hb2).2 (hk4 b o (hk3 b o (below b hb2).1 e))
    · rintro s' ⟨⟨g, tk, rfl⟩, hkB, ⟨m, hm⟩, ys, ⟨ny, ey⟩, iy⟩
      refine ⟨m, hm, fun h' hs' => ?_⟩
      rw [List.size_toArray, ia.length] at iy
      obtain ⟨h2', t2, e2, hk2⟩ := k2
      have offB : ∀ b o, sB.heap.get? b = some o → b ≠ H2.objs.size := fun b o e q => by rw [q, hCn] at e; cases e
      refine hQ (.ref s2.heap.objs.size) _ (k1.trans ⟨h', tk, by rw [e2], fun b o e => hs'.extBut b o (offB b o e) (hkB b o e)⟩) ⟨_, ys, rfl, ⟨ny, hs'.extBut _ _ hDC ey⟩, iy⟩
  exact codeAny_compStart_list (loop _ rfl) (wpAny_pyIter_enum (old _ _ he) (loop _ rfl))
end
end Mine
end

section
namespace Mine
open PySem PySem.W PySem.Calls PyProof.Rows

section
variable {C : Act} {ρ : Loc}
theorem inn_sat1 {scope : Scope} {cl : List (Str × Addr)} {Cn : Addr} {x : Str} {v : Value} {a : AV} {ρc : Loc} {s3 : Shared} {m₃ : Str → Option Value} (hs : Sat C ρ s3) (hkind : scope.kind = .function) (hcl : ∀ y ∈ cl, y ∈ C.env.cells) (hnd : (cl.map (·.1)).Nodup)
    (hnew : C.s₀.heap.get? Cn = none) (hn : s3.heap.Ns Cn m₃) (hx : m₃ x = some v) (hr : Rep s3.heap v a) (hxl : (compEnvC scope cl Cn C.env).kindOf x = some .local)
    (hsub : Sub ρc ρ) (hρc : ∀ y b, ρc.lookup y = some b → ∃ c, (y, c) ∈ cl ∧ (compEnvC scope cl Cn C.env).kindOf y ≠ some .local ∧ C.env.kindOf y ≠ some .local) :
    Sat (inn C scope cl Cn { s3 with heap := C.s₀.heap }) ((x, a) :: ρc) s3 := by
  obtain ⟨m, cm, hn0, hc0, hr0⟩ := id hs.ex
  refine ⟨{ handled := hs.ok.handled, depth := hs.ok.depth, units := hs.ok.units, kind := hkind, glob := hs.ok.glob, bi := hs.ok.bi, top := hs.ok.top, apart := ?_, newL := hnew, newC := fun y hy => hs.ok.newC y (hcl y hy), names := hnd }, ⟨s3.heap, s3.toks, rfl⟩, fun b o e => hs.keep b o e, m₃, cm, hn, fun y hy => hc0 y (hcl y hy), ?_⟩
  · show cl.Pairwise fun x y => x.2 ≠ y.2
    have h1 : cl.Pairwise fun x y => x.1 ≠ y.1 := by rw [List.nodup_iff_pairwise_ne] at hnd; exact List.pairwise_map.mp hnd
    refine h1.imp_of_mem fun {x y} hx hy hne e => hne ?_
    exact name_of_addr hs.ok.apart (hcl x hx) (by rw [e]; exact hcl y hy)
  · intro y b e
    rw [List.lookup_cons] at e
    by_cases hy : y = x
    · subst hy
      rw [beq_self_eq_true] at e; cases e
      exact ⟨v, by unfold look; rw [if_pos hxl]; exact hx, hr⟩
    · rw [beq_eq_false_iff_ne.mpr hy] at e
      obtain ⟨c, hm, h1, h2⟩ := hρc y b e
      obtain ⟨u, e1, r1⟩ := hr0 y b (hsub y b e)
      refine ⟨u, ?_, r1⟩
      unfold look at e1 ⊢
      rw [if_neg h2] at e1
      rw [if_neg h1]; exact e1

/-- a state goes on, all but X stays -/
noncomputable def Kx (X : List Addr) (s s' : Shared) : Prop := (∃ h tk, s' = { s with heap := h, toks := tk }) ∧ ∀ b o, b ∉ X → s.heap.get? b = some o → s'.heap.get? b = some o
theorem Kx.trans {X : List Addr} {s s' s'' : Shared} (x : Kx X s s') (y : Kx X s' s'') : Kx X s s'' := by
  obtain ⟨⟨h, tk, rfl⟩, hk⟩ := x
  obtain ⟨⟨h', tk', rfl⟩, hk'⟩ := y
  exact ⟨⟨h', tk', rfl⟩, fun b o n e => hk' b o n (hk b o n e)⟩
theorem Kp.kX {X : List Addr} {s s' : Shared} (k : Kp s s') : Kx X s s' := by obtain ⟨h, tk, rfl, hk⟩ := k; exact ⟨⟨h, tk, rfl⟩, fun b o _ e => hk b o e⟩

/-- a source, at one state -/
noncomputable def SrcNow (C : Act) (iter : Expr) (n : Nat) (it : Nat → AV) (R : Addr → List Addr → Prop) (s : Shared) : Prop :=
  ∀ (Q : Value → Shared → Prop), (∀ sB s2 I fp P St, SrcAt C s sB s2 I fp n P St it → R I fp → Q (.ref I) s2) → wpAny (model pg C.w) C.A (eval iter C.env) (fun xv s1 => wpAny (model pg C.w) C.A (pyIter xv) Q nE s1) nE s
theorem Src.now {iter : Expr} {n : Nat} {it : Nat → AV} {s : Shared} (h : Src C ρ iter n it) (hs : Sat C ρ s) : SrcNow C iter n it (fun _ _ => True) s := fun Q hQ => h s Q hs fun sB s2 I fp P St S => hQ sB s2 I fp P St S trivial
noncomputable def OnlyI (I : Addr) (fp : List Addr) : Prop := ∀ b ∈ fp, b = I
theorem range_now {s s1 : Shared} {r : Addr} {a b : Int} {t u v : Tok} {n : Nat} {Q : Value → Shared → Prop} (hs : Sat C ρ s) (k1 : Kp s s1) (hr : IsRange s1.heap r a b 1 t u v) (ha : -1000000 ≤ a ∧ a ≤ 1000000) (hb : -1000000 ≤ b ∧ b ≤ 1000000) (hn : n = (b - a).toNat)
    (hQ : ∀ sB s2 I fp P St, SrcAt C s sB s2 I fp n P St (fun i => .b (.int (a + i))) → OnlyI I fp → Q (.ref I) s2) : wpAny (model pg C.w) C.A (pyIter (.ref r)) Q nE s1 := by
  refine wpAny_pyIter_range hr (small_one (by omega) (by omega) (by omega) (by omega)) ?_
  have hsz : Builtin.Range.rangeSize a b 1 = (n : Int) := by rw [rangeSize_one]; split <;> omega
  rw [hsz]
  have W := Walks.range (prog := pg) (w := C.w) hs.ok.handled s1.heap.objs.size a 1 n
  refine hQ s1 _ _ _ _ _ { k1 := k1, k2 := Kp.push _ _, W := W, st := ?_, new := new_none (Nat.le_refl _), lt := by show _ < (s1.heap.push _).objs.size; rw [Heap.size_push]; exact Nat.lt_succ_self _, fp := ?_, seq := ?_, live := ?_, its := ?_ } (fun b hb => List.mem_singleton.mp hb)
  · have e1 : (a + ((0 : Nat) : Int) * 1) = a := by simp
    have e2 : ((n : Int) - ((0 : Nat) : Int)) = (n : Int) := by simp
    rw [e1, e2]
    exact Heap.get?_push_size _ rfl
  · intro b hb hne
    exact absurd (List.mem_singleton.mp hb) hne
  · intro i h o st e
    have := e.symm.trans st; cases this
    exact ⟨_, rfl⟩
  · intro i h st
    exact ⟨_, st⟩
  · rintro i v _ ⟨t, rfl⟩
    exact ⟨t, by rw [Int.mul_one]⟩
theorem SrcNow.range1 {e : Expr} {p q : Pos} {b : Int} {s : Shared} (hg : Gb "range" (.type "range")) (h : Evs C ρ [e] [.b (.int b)]) (hs : Sat C ρ s) (hb : -1000000 ≤ b ∧ b ≤ 1000000) (hg' : C.env.kindOf "range" = some .globalImplicit := by rfl) :
    SrcNow C (.Call (.Name "range" p) [e] [] q) b.toNat (fun i => .b (.int i)) OnlyI s := by
  intro Q hQ
  refine wpAny_Call_NameR (ev_builtin hg hs hg' (by decide) ?_)
  refine PySem.callWith_type (backTo_plain h.1) (h.args hs fun vs s1 k1 r1 => ?_)
  obtain _ | ⟨⟨t, rfl⟩, _ | _⟩ := r1
  refine call_range_1 ?_
  refine range_now hs (k1.trans (Kp.push _ _)) (IsRange.new ..) (by omega) hb (n := b.toNat) (by omega) fun sB s2 I fp P St x => hQ sB s2 I fp P St ?_
  have e : (fun i : Nat => AV.b (.int ((0 : Int) + i))) = fun i => .b (.int i) := by funext i; simp
  rw [e] at x; exact x
theorem SrcNow.range2 {e e' : Expr} {p q : Pos} {a b : Int} {s : Shared} (hg : Gb "range" (.type "range")) (h : Evs C ρ [e, e'] [.b (.int a), .b (.int b)]) (hs : Sat C ρ s) (ha : -1000000 ≤ a ∧ a ≤ 1000000) (hb : -1000000 ≤ b ∧ b ≤ 1000000) (hg' : C.env.kindOf "range" = some .globalImplicit := by rfl) :
    SrcNow C (.Call (.Name "range" p) [e, e'] [] q) (b - a).toNat (fun i => .b (.int (a + i))) OnlyI s := by
  intro Q hQ
  refine wpAny_Call_NameR (ev_builtin hg hs hg' (by decide) ?_)
  refine PySem.callWith_type (backTo_plain h.1) (h.args hs fun vs s1 k1 r1 => ?_)
  obtain _ | ⟨⟨t, rfl⟩, _ | ⟨⟨t', rfl⟩, _ | _⟩⟩ := r1
  refine call_range_2 ?_
  exact range_now hs (k1.trans (Kp.push _ _)) (IsRange.new ..) ha hb rfl hQ
/-- a comprehension upon a source, its state carried along -/
theorem compS {elt iter : Expr} {x : Str} {px p pp : Pos} {scope : Scope} {cl : List (Str × Addr)} {n : Nat} {it : Nat → AV} {use : Option (Value → Sem Unit)} {s : Shared} {Q : Value → Shared → Prop} {ρc : Loc} (X : List Addr)
    (Inv : List Addr → Nat → List Value → Shared → Prop)
    (hs : Sat C ρ s) (hf : Flat ρ) {RI : Addr → List Addr → Prop} (src : SrcNow C iter n it RI s) (hz : n ≤ 1000000) (hX : ∀ b ∈ X, ∃ vs k, ∃ o, s.heap.get? b = some o ∧ o.data = .seq vs k) (hXs : ∀ b ∈ X, C.s₀.heap.get? b = none)
    (hit : ∀ i, flatA (it i) = true ∨ X = []) (hfp : X = [] ∨ ∀ I fp, RI I fp → ∀ b ∈ fp, b = I)
    (h0 : ∀ Z s1, Kp s s1 → (∀ b ∈ Z, s.heap.get? b = none) → Inv Z 0 [] s1)
    (bump : ∀ Z i ys s1 h' tk, (∀ b ∈ Z, s.heap.get? b = none) → Inv Z i ys s1 → (∀ b o, b ∉ Z → s1.heap.get? b = some o → h'.get? b = some o) → Inv Z i ys { s1 with heap := h', toks := tk })
    (turn : ∀ Z Cn i ys s3, i < n → (∀ b ∈ Z, s.heap.get? b = none) → (∀ b ∈ Z, ∃ o, s3.heap.get? b = some o) → Kx X s s3 → Inv Z i ys s3 → Sat C ρ s3 → Sat (inn C scope cl Cn { s3 with heap := C.s₀.heap }) ((x, it i) :: ρc) s3 → ys.length = i →
      wpAny (model pg C.w) C.A (eval elt (compEnvC scope cl Cn C.env)) (fun y s4 => Kx X s3 s4 ∧ Inv Z (i + 1) (ys ++ [y]) s4) nE s3)
    (fin : ∀ Z D Cn m s5 ys, D ≠ Cn → (∀ b ∈ Z, s.heap.get? b = none) → s.heap.get? D = none → s.heap.get? Cn = none → s5.heap.Ns Cn m → s5.heap.PlainList D ys.toArray → ys.length = n → Kx X s s5 → Sat C ρ s5 → Inv Z n ys s5 → D ∈ Z → Cn ∈ Z → compPost (model pg C.w) C.A nE use Q (.ref D) Cn (.ok .next) s5)
    (hsub : Sub ρc ρ) (hcl : ∀ y ∈ cl, y ∈ C.env.cells) (hclos : closureFor scope C.env = pure cl)
    (hρc : (ρc.all fun q => (cl.lookup q.1).isSome && ((relabel scope C.env).names.lookup q.1 == some .cell) && (C.env.kindOf q.1 == some .cell)) = true)
    (hcell : ∀ y ∈ scope.names, y.2 ≠ .cell) (hkind : scope.kind = .function)
    (hnames : ∀ y ∈ scope.names, y.2 = .local → scope.names.lookup y.1 = some .local) (hx : scope.names.lookup x = some .local)
    (hnd : ((cl.map (·.1)).Nodup)) (hss : ∀ x, foldedSetIterable iter C.env x = pure x) :
    wpAny (model pg C.w) C.A (comprehension (.ListComp elt [⟨.Name x px, iter, [], 0⟩] scope p) scope C.env pp (newList []) false (eval iter C.env) use) Q nE s := by
  refine wpAny_comprehension_free rfl hss hclos hkind hnames (src _ fun sB s2 I fp P St S hRI => ?_)
  have hρc' : ∀ Cn y b, ρc.lookup y = some b → ∃ c, (y, c) ∈ cl ∧ (compEnvC scope cl Cn C.env).kindOf y ≠ some .local ∧ C.env.kindOf y ≠ some .local := by
    intro Cn y b e
    have hm := mem_of_lookup e
    have h := List.all_eq_true.mp hρc _ hm
    simp only [Bool.and_eq_true, beq_iff_eq] at h
    obtain ⟨⟨h1, h2⟩, h3⟩ := h
    obtain ⟨c, hc⟩ := Option.isSome_iff_exists.mp h1
    refine ⟨c, mem_of_lookup hc, ?_, ?_⟩
    · show (relabel scope C.env).names.lookup y ≠ _
      rw [h2]; decide
    · rw [h3]; decide
  have hB := hs.keeps S.k1
  have h2 := hB.keeps S.k2
  have W' : Walks pg C.w C.A I fp [I] n (fun i v => i < n ∧ P i v) St :=
    { sub := S.W.sub, frame := S.W.frame, done := S.W.done, self := S.W.self,
      item := fun i s Q E hi st hQ => S.W.item i s Q E hi st fun v h' tk hP => hQ v h' tk ⟨hi, hP⟩ }
  refine wpAny_newObj_type (wpAny_newFunctionEnv hcell (by intro y hy; simp at hy) (fun h₁ hns₁ hsb₁ => ?_) hkind)
  dsimp only at hns₁ hsb₁ ⊢
  generalize hH2 : s2.heap.push { cls := .type "list", dict := Option.none, data := .seq ([] : List Value).toArray } = H2 at hns₁ hsb₁ ⊢
  have hC : H2.objs.size = s2.heap.objs.size + 1 := by rw [← hH2, Heap.size_push]
  have below : ∀ b, b < s2.heap.objs.size → b ≠ H2.objs.size ∧ b ≠ s2.heap.objs.size := fun b hb => ⟨by rw [hC]; exact Nat.ne_of_lt (Nat.lt_succ_of_lt hb), Nat.ne_of_lt hb⟩
  have hDC : s2.heap.objs.size ≠ H2.objs.size := by rw [hC]; exact Nat.ne_of_lt (Nat.lt_succ_self _)
  have old : ∀ b o, s2.heap.get? b = some o → h₁.get? b = some o := fun b o e => hsb₁.extBut b o (below b (Heap.lt_size e)).1 (Heap.get?_push_of_some _ (hH2 ▸ Heap.get?_push_of_some _ e))
  have hacc : h₁.PlainList s2.heap.objs.size #[] := ⟨_, hsb₁.extBut _ _ hDC (Heap.get?_push_of_some _ (hH2 ▸ Heap.get?_push_size _ rfl))⟩
  have none_of : ∀ b, s2.heap.objs.size ≤ b → s.heap.get? b = Option.none := fun b hb => by
    cases e : s.heap.get? b with
    | none => rfl
    | some o => exact absurd (Heap.lt_size ((S.k1.trans S.k2).get _ o e)) (Nat.not_lt.mpr hb)
  have hCn : s.heap.get? H2.objs.size = Option.none := none_of _ (by rw [hC]; exact Nat.le_succ _)
  have hDn : s.heap.get? s2.heap.objs.size = Option.none := none_of _ (Nat.le_refl _)
  have hIn : s.heap.get? I = Option.none := by
    cases e : s.heap.get? I with
    | none => rfl
    | some o => have := S.k1.get _ o e; rw [S.new] at this; cases this
  have hZ : ∀ b ∈ [I, s2.heap.objs.size, H2.objs.size], s.heap.get? b = Option.none := fun b hb => by
    rcases List.mem_cons.mp hb with rfl | hb
    · exact hIn
    · rcases List.mem_cons.mp hb with rfl | hb
      · exact hDn
      · cases List.mem_singleton.mp hb; exact hCn
  have s0none : ∀ b, s.heap.get? b = Option.none → C.s₀.heap.get? b = Option.none := fun b hb => by
    cases e : C.s₀.heap.get? b with
    | none => rfl
    | some o => have := hs.keep b o e; rw [hb] at this; cases this
  have offZ : ∀ b ∈ [I, s2.heap.objs.size, H2.objs.size], b ≠ C.env.locals ∧ ∀ y ∈ C.env.cells, y.2 ≠ b := fun b hb => hs.offNew (hZ b hb)
  have hXZ : ∀ b ∈ X, b ∉ [I, s2.heap.objs.size, H2.objs.size] := fun b hb q => by
    obtain ⟨vs, k, o, e, _⟩ := hX b hb
    rw [hZ b q] at e; cases e
  have offX : ∀ b ∈ X, b ≠ C.env.locals ∧ ∀ y ∈ C.env.cells, y.2 ≠ b := fun b hb => by
    obtain ⟨vs, k, o, e, hd⟩ := hX b hb
    obtain ⟨m, cm, ⟨oL, _, _, hL, hd', _⟩, hcc, _⟩ := hs.ex
    constructor
    · intro q
      rw [q] at e
      have := e.symm.trans hL; cases this
      rw [hd] at hd'; cases hd'
    · intro y hy q
      obtain ⟨o', ho, hd2⟩ := hcc y hy
      rw [q] at ho
      have := e.symm.trans ho; cases this
      rw [hd] at hd2; cases hd2
  have hDI : s2.heap.objs.size ≠ I := Ne.symm (Nat.ne_of_lt S.lt)
  have hCI : H2.objs.size ≠ I := by rw [hC]; exact Ne.symm (Nat.ne_of_lt (Nat.lt_succ_of_lt S.lt))
  have fplt : ∀ b ∈ fp, b < s2.heap.objs.size := fun b hb => by
    by_cases hI : b = I
    · subst hI; exact S.lt
    · obtain ⟨o, vs, k, e, _⟩ := S.fp b hb hI
      exact Heap.lt_size (S.k2.get b o e)
  have fpX : ∀ b ∈ fp, b ∉ X := fun b hb q => by
    rcases hfp with h | h
    · rw [h] at q; cases q
    · cases h I fp hRI b hb
      obtain ⟨vs, k, o, e, _⟩ := hX _ q
      rw [hIn] at e; cases e
  have hpp : ((compEnvC scope cl H2.objs.size C.env).scope.kind == .class || ((compEnvC scope cl H2.objs.size C.env).scope.kind == .module && (compEnvC scope cl H2.objs.size C.env).locals != (compEnvC scope cl H2.objs.size C.env).globals)) = false := by
    show (scope.kind == .class || (scope.kind == .module && _)) = false
    rw [hkind]; rfl
  have hk1 : (compEnvC scope cl H2.objs.size C.env).kindOf x = some .local := lookup_relabel_local hx
  generalize hZd : [I, s2.heap.objs.size, H2.objs.size] = Z at hZ hXZ offZ
  have mI : I ∈ Z := by rw [← hZd]; exact List.mem_cons_self
  have mD : s2.heap.objs.size ∈ Z := by rw [← hZd]; exact List.mem_cons_of_mem _ List.mem_cons_self
  have mC : H2.objs.size ∈ Z := by rw [← hZd]; exact List.mem_cons_of_mem _ (List.mem_cons_of_mem _ List.mem_cons_self)
  have Zc : ∀ b, b ∈ Z → b = I ∨ b = s2.heap.objs.size ∨ b = H2.objs.size := fun b hb => by rw [← hZd] at hb; simpa using hb
  -- what a bump at Z keeps
  have satZ : ∀ s1 h' tk, Sat C ρ s1 → (∀ b o, b ∉ Z → s1.heap.get? b = some o → h'.get? b = some o) → Sat C ρ { s1 with heap := h', toks := tk } := fun s1 h' tk sat hk =>
    sat.bumpF hf (wr := Z) hk fun b hb => ⟨s0none b (hZ b hb), (offZ b hb).1, (offZ b hb).2⟩
  have hZB : ∀ b ∈ Z, sB.heap.get? b = Option.none := fun b hb => by
    rcases Zc b hb with rfl | rfl | rfl
    · exact S.new
    · cases e : sB.heap.get? s2.heap.objs.size with
      | none => rfl
      | some o => exact absurd (Heap.lt_size (S.k2.get _ o e)) (Nat.lt_irrefl _)
    · cases e : sB.heap.get? H2.objs.size with
      | none => rfl
      | some o => have := Heap.lt_size (S.k2.get _ o e); rw [hC] at this; exact absurd this (Nat.not_lt.mpr (Nat.le_succ _))
  have kxZ : ∀ s1 h' tk, Kx X sB s1 → (∀ b o, b ∉ Z → s1.heap.get? b = some o → h'.get? b = some o) → Kx X sB { s1 with heap := h', toks := tk } := by
    rintro s1 h' tk ⟨⟨g, t, rfl⟩, hk⟩ hk'
    exact ⟨⟨h', tk, rfl⟩, fun b o hb e => hk' b o (fun q => by rw [hZB b q] at e; cases e) (hk b o hb e)⟩
  have loop : ∀ s₃ : Shared, s₃ = { s2 with heap := h₁, toks := s2.toks + ([] : List (Str × Value)).length } →
      codeAny (model pg C.w) C.A (.compLoop (.ListComp elt [⟨.Name x px, iter, [], 0⟩] scope p) 0 (.ref I) (.ref s2.heap.objs.size) (compEnvC scope cl H2.objs.size C.env))
        (compPost (model pg C.w) C.A nE use Q (.ref s2.heap.objs.size) H2.objs.size) s₃ := by
    rintro s₃ rfl
    have kpB : Kp sB { s2 with heap := h₁, toks := s2.toks + ([] : List (Str × Value)).length } := S.k2.trans ⟨h₁, _, rfl, old⟩
    have kp1 : Kp s { s2 with heap := h₁, toks := s2.toks + ([] : List (Str × Value)).length } := (S.k1.trans S.k2).trans ⟨h₁, _, rfl, old⟩
    refine codeAny_compLoop_list (fun k s' => ∃ i ys m, i ≤ n ∧ k = n + 1 - i ∧ List.length ys = i ∧ Kx X sB s' ∧ Sat C ρ s' ∧ Inv Z i ys s' ∧ s'.heap.PlainList s2.heap.objs.size ys.toArray ∧ s'.heap.Ns H2.objs.size m ∧ St i s'.heap)
      ?_ (n + 1) ⟨0, [], _, Nat.zero_le _, rfl, rfl, kpB.kX, hs.keeps kp1, h0 Z _ kp1 hZ, hacc, hns₁, S.W.frame _ _ _ S.st fun b hb o e => old b o e⟩
    rintro k s' ⟨i, ys, m, hi, rfl, hlen, kx, sat, inv, pl, hm, st⟩
    by_cases hlt : i < n
    · refine W'.item i s' _ _ hlt st fun v h' tk hP st' hk' => ?_
      have hkZ : ∀ b o, b ∉ Z → s'.heap.get? b = some o → h'.get? b = some o := fun b o hb e => hk' b o (fun q => hb (by rw [List.mem_singleton.mp q]; exact mI)) e
      have hm' : h'.Ns H2.objs.size m := hm.at' fun o e => hk' _ o (fun q => hCI (List.mem_singleton.mp q)) e
      refine wpAny_assign_Name (wpAny_storeName_local hk1 hm' (fun h3 hn3 hs3 => ?_) hpp)
      have hk3 : ∀ b o, b ∉ Z → s'.heap.get? b = some o → h3.get? b = some o := fun b o hb e => hs3.extBut b o (fun q => hb (by rw [q]; exact mC)) (hkZ b o hb e)
      have sat3 := satZ s' h3 (tk + 1) sat hk3
      have kx3 := kxZ s' h3 (tk + 1) kx hk3
      have inv3 := bump Z i ys s' h3 (tk + 1) hZ inv hk3
      have pl3 : h3.PlainList s2.heap.objs.size ys.toArray := by
        obtain ⟨n0, e⟩ := pl
        exact ⟨n0, hs3.extBut _ _ hDC (hk' _ _ (fun q => hDI (List.mem_singleton.mp q)) e)⟩
      have st3 : St (i + 1) h3 := S.W.frame _ _ _ st' fun b hb o e => hs3.extBut b o (below b (fplt b hb)).1 e
      have hrep : Rep h3 v (it i) := by
        have r := S.its i v hlt hP.2
        rcases hit i with hfl | hX0
        · exact flatA_rep hfl r
        · exact r.ks (ks_of fun b o e => kx3.2 b o (by rw [hX0]; exact List.not_mem_nil) e)
      have zex : ∀ b ∈ Z, ∃ o, h3.get? b = some o := by
        intro b hb
        rcases Zc b hb with rfl | rfl | rfl
        · exact S.live _ _ st3
        · obtain ⟨n0, e⟩ := pl3; exact ⟨_, e⟩
        · obtain ⟨o, _, _, e, _⟩ := hn3; exact ⟨o, e⟩
      have sat4 := inn_sat1 (scope := scope) (cl := cl) (Cn := H2.objs.size) (x := x) (a := it i) (ρc := ρc) sat3 hkind hcl hnd (s0none _ hCn) hn3 (by simp) hrep hk1 hsub (hρc' _)
      refine of_nE (wpAny_mono (turn Z H2.objs.size i ys _ hlt hZ zex (S.k1.kX.trans kx3) inv3 sat3 sat4 hlen) (fun y s4 h4 => ?_) fun _ _ e => e)
      obtain ⟨kx4, inv4⟩ := h4
      have pl4 : s4.heap.PlainList s2.heap.objs.size ys.toArray := by
        obtain ⟨n0, e⟩ := pl3
        exact ⟨n0, kx4.2 _ _ (fun q => hXZ _ q mD) e⟩
      have hn4 := hn3.at' (h' := s4.heap) fun o e => kx4.2 _ o (fun q => hXZ _ q mC) e
      have st4 : St (i + 1) s4.heap := S.W.frame _ _ _ st3 fun b hb o e => kx4.2 b o (fpX b hb) e
      have sat5 : Sat C ρ s4 := by
        obtain ⟨⟨h4, t4, rfl⟩, hk4⟩ := kx4
        exact sat3.bumpF hf (wr := X) hk4 fun b hb => ⟨hXs b hb, (offX b hb).1, (offX b hb).2⟩
      have kx5 := kx3.trans kx4
      refine wpAny_list_append_plain (hsz := by rw [List.size_toArray, hlen]; exact sizeL (by omega)) pl4 fun h5 hl5 hs5 => ?_
      have hk5 : ∀ b o, b ∉ Z → s4.heap.get? b = some o → h5.get? b = some o := fun b o hb e => hs5.extBut b o (fun q => hb (by rw [q]; exact mD)) e
      refine ⟨n + 1 - (i + 1), by omega, i + 1, ys ++ [y], _, hlt, rfl, by rw [List.length_append, hlen]; rfl, kxZ s4 h5 s4.toks kx5 hk5, satZ s4 h5 s4.toks sat5 hk5, bump Z (i + 1) _ s4 h5 s4.toks hZ inv4 hk5, by simpa using hl5, hn4.sameBut hs5 (Ne.symm hDC), ?_⟩
      exact S.W.frame _ _ _ st4 fun b hb o e => hs5.extBut b o (below b (fplt b hb)).2 e
    · have e : i = n := by omega
      subst e
      refine W'.done s' _ _ st fun h' tk hk' => ?_
      have hkZ : ∀ b o, b ∉ Z → s'.heap.get? b = some o → h'.get? b = some o := fun b o hb e => hk' b o (fun q => hb (by rw [List.mem_singleton.mp q]; exact mI)) e
      have hm' : h'.Ns H2.objs.size m := hm.at' fun o e => hk' _ o (fun q => hCI (List.mem_singleton.mp q)) e
      refine fin Z _ H2.objs.size m _ ys hDC hZ hDn hCn hm' ?_ hlen (S.k1.kX.trans (kxZ s' h' tk kx hkZ)) (satZ s' h' tk sat hkZ) (bump Z _ _ s' h' tk hZ inv hkZ) mD mC
      obtain ⟨n0, e⟩ := pl
      exact ⟨n0, hk' _ _ (fun q => hDI (List.mem_singleton.mp q)) e⟩
  exact codeAny_compStart_list (loop _ rfl) (W'.self 0 _ _ _ (S.W.frame _ _ _ S.st fun b hb o e => old b o e) (loop _ rfl))
end
end Mine
end

section
namespace Mine
open PySem PySem.W PySem.Calls PyProof.Rows

/-- a function entered, its state any: g is what must stay -/
theorem Fn.enterX {k : Nat} {f : Addr} {as : List AV} {oc : Value} {od : Option Addr} {osl : Array (Option Value)} {name qual : Str} {params : Arguments} {body : List Stmt} {scope : Scope} {dV kV doc pm cdv ct : Value} {an : Option Addr}
    {w : World} {A : Around} {s : Shared} {vs : List Value} {Q : Value → Shared → Prop} (g : Heap) (hg : ∀ b o, g.get? b = some o → s.heap.get? b = some o) (tpg : Tp w g) (room : Room A (k + 1)) (hvs : All2 (Rep s.heap) vs as)
    (xs : List Str) (ho : (KK w).lookup f = some ⟨oc, od, .func (fnOf name qual params body scope dV kV doc pm an cdv ct), osl⟩) (hcd : codeIn (KK w) cdv qual = true)
    (hb : ∀ vs : List Value, vs.length = xs.length → bindArgs (fnOf name qual params body scope dV kV doc pm an cdv ct) ⟨vs, []⟩ = pure (xs.zip vs))
    (hk : (xs.all fun y => scope.names.lookup y == some .local || scope.names.lookup y == some .cell) = true) (hnd : ((cellsFrom 0 scope.names []).map (·.1)).Nodup) (hl : xs.length = as.length)
    (H : ∀ A' L s₁, (act w A' (fnOf name qual params body scope dV kV doc pm an cdv ct) L f { s with heap := g } k).Ok → Sat (act w A' (fnOf name qual params body scope dV kV doc pm an cdv ct) L f { s with heap := g } k) (zipR xs as []) s₁ → Kp s s₁ →
      (∀ b o, s.heap.get? b = some o → b ≠ (act w A' (fnOf name qual params body scope dV kV doc pm an cdv ct) L f { s with heap := g } k).env.locals ∧ ∀ y ∈ (act w A' (fnOf name qual params body scope dV kV doc pm an cdv ct) L f { s with heap := g } k).env.cells, y.2 ≠ b) →
      wpAny (model pg w) A' (execs body (act w A' (fnOf name qual params body scope dV kV doc pm an cdv ct) L f { s with heap := g } k).env) (fun fl s' => Q (match fl with | .ret v => v | _ => .none) s') nE s₁)
    (hco : scope.isCoroutine = false := by rfl) (hgen : scope.isGenerator = false := by rfl) (hkd : scope.kind = .function := by rfl) : wpAny (model pg w) A (call (.ref f) vs) Q nE s := by
  have hvl : vs.length = xs.length := by rw [hvs.length, hl]
  have tp : Tp w s.heap := tpg.keeps hg
  obtain ⟨X, mg, mb, T⟩ := id tp
  refine wpAny_call ?_
  refine codeAny_call_cells (binds := xs.zip vs) (by have := room.depth; omega) (X _ _ ho) rfl T.nolimit (codeRec_of X hcd) rfl (hb vs hvl) rfl ?_ ?_ hco hgen hkd
  · intro x hx
    have hx' : x.1 ∈ xs := (List.of_mem_zip (a := x.1) (b := x.2) hx).1
    have hq := List.all_eq_true.mp hk _ hx'
    rcases Bool.or_eq_true_iff.mp hq with q | q
    · exact .inl (by simpa using q)
    · have q' : scope.names.lookup x.1 = some .cell := by simpa using q
      exact .inr ⟨q', cellsFrom_some _ _ _ (.inl q')⟩
  · intro s₁ x
    have hnames : (((callEnvC (fnOf name qual params body scope dV kV doc pm an cdv ct) s.heap.objs.size f).cells).map (·.1)).Nodup := by
      show ((cellsFrom (s.heap.objs.size + 1) scope.names []).map (·.1)).Nodup
      rw [← cellsFrom_names scope.names 0 (s.heap.objs.size + 1) [] [] rfl]; exact hnd
    have fresh : ∀ a, s.heap.objs.size ≤ a → g.get? a = none := fun a ha => by
      cases e : g.get? a with
      | none => rfl
      | some o' => exact absurd (Heap.lt_size (hg _ _ e)) (Nat.not_lt.mpr ha)
    have ok : (act w (A.deeper (callEnvC (fnOf name qual params body scope dV kV doc pm an cdv ct) s.heap.objs.size f)) (fnOf name qual params body scope dV kV doc pm an cdv ct) s.heap.objs.size f { s with heap := g } k).Ok :=
      { handled := room.handled
        depth := by show A.depth + 1 + k < recursionLimit; have := room.depth; omega
        units := by show A.units + 3 + 8 * k + 200 < cLine; have := room.units; omega
        kind := hkd, glob := rfl, bi := rfl, top := tpg, apart := x.apart
        newL := fresh _ (Nat.le_refl _)
        newC := fun y hy => fresh _ (Nat.le_of_lt (x.above y.1 y.2 hy))
        names := hnames }
    obtain ⟨h', tk, e1⟩ := id x.toInCall.same
    have sat : Sat (act w (A.deeper (callEnvC (fnOf name qual params body scope dV kV doc pm an cdv ct) s.heap.objs.size f)) (fnOf name qual params body scope dV kV doc pm an cdv ct) s.heap.objs.size f { s with heap := g } k) (zipR xs as []) s₁ := by
      refine ⟨ok, ⟨h', tk, e1⟩, fun b o e => x.toInCall.keep b o (hg b o e), _, _, x.toInCall.ns, fun y hy => x.cell y.1 y.2 (lookup_of_mem_nodup hnames hy), ?_⟩
      exact look_bind (hvs.mono fun _ _ r => r.ks (ks_of x.toInCall.keep)) hvl.symm (fun _ _ e => by simp at e)
    have kp : Kp s s₁ := ⟨h', tk, e1, by have := x.toInCall.keep; rw [e1] at this; exact this⟩
    refine of_nE (wpAny_mono (H _ _ s₁ ok sat kp fun b o e => ⟨?_, fun y hy q => ?_⟩) (fun fl s' hq => hq) fun _ _ e => e)
    · intro q
      have := Heap.lt_size e
      rw [q] at this
      exact Nat.lt_irrefl _ this
    · have := Heap.lt_size e
      rw [← q] at this
      exact Nat.lt_irrefl _ (Nat.lt_trans this (x.above y.1 y.2 hy))

section
variable {C : Act} {ρ : Loc}
/-- a loop upon a source, its state carried along -/
theorem forS {ρs : Nat → Loc} {iter : Expr} {x : Str} {px p : Pos} {body : List Stmt} {n : Nat} {it : Nat → AV} {s : Shared} {Q : Flow → Shared → Prop} (X : List Addr) (Inv : Nat → Shared → Prop)
    (hs : Sat C (ρs 0) s) (hf : ∀ i, Flat (ρs i)) (src : SrcNow C iter n it OnlyI s) (hX : ∀ b ∈ X, ∃ vs k, ∃ o, s.heap.get? b = some o ∧ o.data = .seq vs k)
    (hit : ∀ i, flatA (it i) = true)
    (h0 : ∀ s1, Kp s s1 → Inv 0 s1)
    (bump : ∀ I i s1 h' tk, s.heap.get? I = none → Inv i s1 → KX C X s s1 → (∀ b o, b ≠ I → b ≠ C.env.locals → (∀ y ∈ C.env.cells, y.2 ≠ b) → s1.heap.get? b = some o → h'.get? b = some o) → Inv i { s1 with heap := h', toks := tk })
    (turn : ∀ i s3, i < n → Inv i s3 → Sat C ((x, it i) :: ρs i) s3 → KX C X s s3 → wpAny (model pg C.w) C.A (execs body C.env) (fun fl s4 => match fl with | .next => Sat C (ρs (i + 1)) s4 ∧ KX C X s3 s4 ∧ Inv (i + 1) s4 | .ret v => Q (.ret v) s4 | _ => False) nE s3)
    (done : ∀ s5, Sat C (ρs n) s5 → KX C X s s5 → Inv n s5 → Q .next s5)
    (hk : Kd C x) (hss : ∀ x, foldedSetIterable iter C.env x = pure x) :
    wpAny (model pg C.w) C.A (exec (.For (.Name x px) iter body [] p) C.env) Q nE s := by
  refine wpAny_For (src _ fun sB s2 I fp P St S hRI => ?_) hss
  have hB := hs.keeps S.k1
  have h2 := hB.keeps S.k2
  have hIn : s.heap.get? I = none := by
    cases e : s.heap.get? I with
    | none => rfl
    | some o => have := S.k1.get _ o e; rw [S.new] at this; cases this
  have s0none : C.s₀.heap.get? I = none := by
    cases e : C.s₀.heap.get? I with
    | none => rfl
    | some o => have := hs.keep _ o e; rw [hIn] at this; cases this
  have offI := hs.offNew hIn
  have offX : ∀ b ∈ X, b ≠ C.env.locals ∧ ∀ y ∈ C.env.cells, y.2 ≠ b := fun b hb => by
    obtain ⟨vs, k, o, e, hd⟩ := hX b hb
    obtain ⟨m, cm, ⟨oL, _, _, hL, hd', _⟩, hcc, _⟩ := hs.ex
    constructor
    · intro q
      rw [q] at e
      have := e.symm.trans hL; cases this
      rw [hd] at hd'; cases hd'
    · intro y hy q
      obtain ⟨o', ho, hd2⟩ := hcc y hy
      rw [q] at ho
      have := e.symm.trans ho; cases this
      rw [hd] at hd2; cases hd2
  have IX : I ∉ X := fun q => by obtain ⟨vs, k, o, e, _⟩ := hX _ q; rw [hIn] at e; cases e
  have satI : ∀ i s1 h' tk, Sat C (ρs i) s1 → (∀ b o, b ≠ I → s1.heap.get? b = some o → h'.get? b = some o) → Sat C (ρs i) { s1 with heap := h', toks := tk } := fun i s1 h' tk sat hk =>
    sat.bumpF (hf i) (wr := [I]) (fun b o hb e => hk b o (fun q => hb (by rw [q]; exact List.mem_singleton.mpr rfl)) e) fun b hb => by cases List.mem_singleton.mp hb; exact ⟨s0none, offI.1, offI.2⟩
  have kxI : ∀ s1 h' tk, KX C X s s1 → (∀ b o, b ≠ I → s1.heap.get? b = some o → h'.get? b = some o) → KX C X s { s1 with heap := h', toks := tk } := by
    rintro s1 h' tk ⟨⟨g, t, rfl⟩, hk⟩ hk'
    exact ⟨⟨h', tk, rfl⟩, fun b o n1 n2 n3 e => hk' b o (fun q => by rw [q, hIn] at e; cases e) (hk b o n1 n2 n3 e)⟩
  refine codeAny_forLoop (fun k s' => ∃ i, i ≤ n ∧ k = n + 1 - i ∧ KX C X s s' ∧ Sat C (ρs i) s' ∧ Inv i s' ∧ St i s'.heap) (fun k s1 hI => ?_) (n + 1) ⟨0, Nat.zero_le _, rfl, (S.k1.trans S.k2).kx, h2, h0 _ (S.k1.trans S.k2), S.st⟩
  obtain ⟨i, hi, rfl, k1, hs1, inv1, st1⟩ := hI
  by_cases hlt : i < n
  · refine S.W.item i s1 _ _ hlt st1 fun v h' tk hP st' hk' => ?_
    have hk'' : ∀ b o, b ≠ I → s1.heap.get? b = some o → h'.get? b = some o := fun b o hb e => hk' b o (fun q => hb (List.mem_singleton.mp q)) e
    have hs1' := satI _ s1 h' tk hs1 hk''
    have k1' := kxI s1 h' tk k1 hk''
    have inv1' := bump I i s1 h' tk hIn inv1 k1 fun b o hb _ _ e => hk'' b o hb e
    refine assign_Name (of_nE (store_ hs1' (flatA_rep (hit i) (S.its i v hlt hP)) hk fun s3 hs3 k3 => ?_))
    have k13 := k1'.trans k3.kx
    have inv3 : Inv i s3 := by
      obtain ⟨⟨h3, t3, rfl⟩, hk3⟩ := k3
      exact bump I i { s1 with heap := h', toks := tk } h3 t3 hIn inv1' k1' fun b o _ n1 n2 e => hk3 b o n1 n2 e
    refine of_nE (wpAny_mono (turn i s3 hlt inv3 hs3 k13) (fun fl s4 h4 => ?_) fun _ _ e => e)
    cases fl with
    | next =>
      obtain ⟨hs4, k4, inv4⟩ := h4
      refine ⟨n + 1 - (i + 1), by omega, i + 1, hlt, rfl, k13.trans k4, hs4, inv4, ?_⟩
      refine S.W.frame _ _ _ st' fun b hb o e => ?_
      have hbI := hRI b hb
      rw [hbI] at e ⊢
      exact k4.keep I o offI.1 offI.2 IX (k3.2 I o offI.1 offI.2 e)
    | ret v => exact h4
    | brk => exact h4.elim
    | cont => exact h4.elim
  · have e : i = n := by omega
    subst e
    refine S.W.done s1 _ _ st1 fun h' tk hk' => ?_
    have hk'' : ∀ b o, b ≠ I → s1.heap.get? b = some o → h'.get? b = some o := fun b o hb e => hk' b o (fun q => hb (List.mem_singleton.mp q)) e
    exact wpAny_execs_nil (done _ (satI _ s1 h' tk hs1 hk'') (kxI s1 h' tk k1 hk'') (bump I _ s1 h' tk hIn inv1 k1 fun b o hb _ _ e => hk'' b o hb e))
end
end Mine
end

section
namespace Mine
open PySem PySem.W PySem.Calls PyProof.Rows

/-- a matrix, its rows by their places -/
structure Mat (h : Heap) (D : Addr) (as : List Addr) (m : List (List Int)) : Prop where
  outer : h.PlainList D (as.map Value.ref).toArray
  rows : All2 (fun a xs => ∃ us : List Value, h.PlainList a us.toArray ∧ IntsAre us xs) as m
  nd : as.Nodup
  out : D ∉ as
theorem Mat.rr {h : Heap} {D : Addr} {as : List Addr} {m : List (List Int)} (M : Mat h D as m) : RR h (.ref D) m := by
  refine ⟨D, _, rfl, M.outer, ?_⟩
  have := M.rows
  clear M
  induction this with
  | nil => exact .nil
  | cons h1 _ ih => obtain ⟨us, p, i⟩ := h1; exact .cons ⟨_, us, rfl, p, i⟩ ih
theorem All2.imp {α β : Type} {R R' : α → β → Prop} : ∀ {l : List α} {l' : List β}, All2 R l l' → (∀ a ∈ l, ∀ b, R a b → R' a b) → All2 R' l l'
  | _, _, .nil, _ => .nil
  | _, _, .cons h t, f => .cons (f _ List.mem_cons_self _ h) (All2.imp t fun a ha b r => f a (List.mem_cons_of_mem _ ha) b r)
theorem Mat.keep {h h' : Heap} {D : Addr} {as : List Addr} {m : List (List Int)} (M : Mat h D as m) (hk : ∀ b o, b ∈ D :: as → h.get? b = some o → h'.get? b = some o) : Mat h' D as m :=
  { outer := by obtain ⟨n, e⟩ := M.outer; exact ⟨n, hk _ _ List.mem_cons_self e⟩
    rows := M.rows.imp fun a ha b ⟨us, ⟨n, e⟩, i⟩ => ⟨us, ⟨n, hk _ _ (List.mem_cons_of_mem _ ha) e⟩, i⟩
    nd := M.nd, out := M.out }
theorem Mat.ks {h h' : Heap} {D : Addr} {as : List Addr} {m : List (List Int)} (M : Mat h D as m) (k : KS h h') : Mat h' D as m :=
  { outer := plain_ks k M.outer, rows := M.rows.imp fun a ha b ⟨us, p, i⟩ => ⟨us, plain_ks k p, i⟩, nd := M.nd, out := M.out }
theorem Mat.len {h : Heap} {D : Addr} {as : List Addr} {m : List (List Int)} (M : Mat h D as m) : as.length = m.length := M.rows.length
theorem all2_at {α β : Type} {R : α → β → Prop} : ∀ {l : List α} {l' : List β}, All2 R l l' → ∀ (i : Nat) (a : α), l[i]? = some a → ∃ b, l'[i]? = some b ∧ R a b
  | _, _, .nil, i, a, h => by simp at h
  | _, _, .cons h t, 0, a, e => by simp at e; subst e; exact ⟨_, rfl, h⟩
  | _, _, .cons h t, i + 1, a, e => by simpa using all2_at t i a (by simpa using e)
theorem all2_set {α β : Type} {R R' : α → β → Prop} : ∀ {l : List α} {l' : List β}, All2 R l l' → ∀ (i : Nat) (a : α) (b : β), l[i]? = some a → l.Nodup → (∀ x ∈ l, ∀ y, x ≠ a → R x y → R' x y) → R' a b → All2 R' l (l'.set i b)
  | _, _, .nil, i, a, b, h, _, _, _ => by simp at h
  | x :: l, y :: l', .cons h t, 0, a, b, e, nd, f, r => by
    simp at e; subst e
    refine .cons r (t.imp fun z hz w rw => f z (List.mem_cons_of_mem _ hz) w (fun q => ?_) rw)
    subst q
    exact (List.nodup_cons.mp nd).1 hz
  | x :: l, y :: l', .cons h t, i + 1, a, b, e, nd, f, r => by
    have e' : l[i]? = some a := by simpa using e
    refine .cons (f x List.mem_cons_self y (fun q => ?_) h) (all2_set t i a b e' (List.nodup_cons.mp nd).2 (fun z hz w h1 h2 => f z (List.mem_cons_of_mem _ hz) w h1 h2) r)
    subst q
    exact (List.nodup_cons.mp nd).1 (List.mem_of_getElem? e')
theorem Mat.set {h h' : Heap} {D a : Addr} {as : List Addr} {m : List (List Int)} {us : List Value} {ys : List Int} (M : Mat h D as m) (i : Nat) (ha : as[i]? = some a) (hk : ∀ b o, b ≠ a → h.get? b = some o → h'.get? b = some o) (pl : h'.PlainList a us.toArray) (ia : IntsAre us ys) : Mat h' D as (m.set i ys) :=
  { outer := by obtain ⟨n, e⟩ := M.outer; exact ⟨n, hk _ _ (fun q => M.out (by rw [q]; exact List.mem_of_getElem? ha)) e⟩
    rows := all2_set M.rows i a ys ha M.nd (fun x _ y hne ⟨us, ⟨n, e⟩, i⟩ => ⟨us, ⟨n, hk _ _ hne e⟩, i⟩) ⟨us, pl, ia⟩
    nd := M.nd, out := M.out }

section
variable {C : Act} {ρ : Loc}
theorem ev_rowP {o i : Expr} {p : Pos} {D a : Addr} {as : List Addr} {m : List (List Int)} {k : Int} {s : Shared} {Q : Value → Shared → Prop} (ho : Ev C ρ o (.b (.ref D))) (hi : Ev C ρ i (.b (.int k))) (hs : Sat C ρ s) (M : Mat s.heap D as m) (h0 : 0 ≤ k) (hk : as[k.toNat]? = some a) (hz : as.length ≤ 1000)
    (hQ : ∀ s', Kp s s' → Q (.ref a) s') (hss : ∀ a t, subscripted i false (.ref a) (.int k t) = operate [.ref a, .int k t] (getItem (.ref a) (.int k t)) := by with_unfolding_all (intro _ _; rfl)) : wpAny (model pg C.w) C.A (eval (.Subscript o i p) C.env) Q nE s := by
  refine Subscript_ (ho s _ hs fun u s1 k1 r1 => hi s1 _ (hs.keeps k1) fun v s2 k2 r2 => ?_)
  have r1' : u = .ref D := r1
  subst r1'
  obtain ⟨t, rfl⟩ := r2
  have M2 := (M.ks k1.ks).ks k2.ks
  have hlt : k.toNat < as.length := (List.getElem?_eq_some_iff.mp hk).1
  exact tail_any M2.outer.isList.typeIs slot_list_getitem.lookup (wpAny_getItem_list M2.outer.isList h0 (by omega) (by simp [hk]) (hQ _ (k1.trans k2))) (hss D t)

/-- m with a place set -/
noncomputable def setM (m : List (List Int)) (r c : Nat) (v : Int) : List (List Int) := m.set r ((m.getD r []).set c v)
theorem store_cell {x : Str} {oa ir ic value : Expr} {p1 p2 pos : Pos} {D : Addr} {as : List Addr} {m : List (List Int)} {r c v : Int} {s : Shared} {Q : Flow → Shared → Prop} (X : List Addr) (hf : Flat ρ) (hx : ρ.lookup x = some (.b (.ref D))) (hv : Ev C ((x, .b (.zss m)) :: ρ) value (.b (.int v)))
    (ha : Ev C ρ oa (.b (.ref D))) (hr : Ev C ρ ir (.b (.int r))) (hc : Ev C ρ ic (.b (.int c))) (hs : Sat C ρ s) (M : Mat s.heap D as m) (hX : ∀ a ∈ as, a ∈ X) (hn : ∀ a ∈ as, C.s₀.heap.get? a = none) (r0 : 0 ≤ r) (r1 : r < m.length) (c0 : 0 ≤ c) (c1 : c < (m.getD r.toNat []).length) (hz : m.length ≤ 1000) (hz' : (m.getD r.toNat []).length ≤ 1000)
    (hQ : ∀ s', Sat C ρ s' → KX C X s s' → Mat s'.heap D as (setM m r.toNat c.toNat v) → Q .next s')
    (hss : ∀ a t, subscripted ir false (.ref a) (.int r t) = operate [.ref a, .int r t] (getItem (.ref a) (.int r t)) := by with_unfolding_all (intro _ _; rfl))
    (hsw : swapsWith value (some (.Subscript (.Subscript oa ir p1) ic p2)) pos.line C.env = pure false := by rfl) :
    wpAny (model pg C.w) C.A (exec (.Assign [.Subscript (.Subscript oa ir p1) ic p2] value pos) C.env) Q nE s := by
  have hlen := M.len
  have hlt : r.toNat < as.length := by omega
  obtain ⟨a, hra⟩ : ∃ a, as[r.toNat]? = some a := ⟨as[r.toNat], by simp [hlt]⟩
  refine wpAny_Assign_Subscript (hv s _ (hs.up hx M.rr) fun u s1 k1 r1 => ev_rowP ha hr (hs.keeps k1) (M.ks k1.ks) r0 hra (by omega) (fun s2 k2 => hc s2 _ ((hs.keeps k1).keeps k2) fun iv s3 k3 r3 => ?_) hss) hsw
  obtain ⟨t, rfl⟩ := r3
  obtain ⟨t', rfl⟩ := r1
  have k13 := (k1.trans k2).trans k3
  have sat3 := hs.keeps k13
  have M3 := M.ks k13.ks
  obtain ⟨xs, hmx, us, pl, ia⟩ := all2_at M3.rows _ _ hra
  have hg : m.getD r.toNat [] = xs := by simp [List.getD, hmx]
  rw [hg] at c1 hz'
  refine plain_set pl c0 (by rw [ia.length]; exact c1) (by rw [ia.length]; omega) fun h' pl' sb => ?_
  have hk : ∀ b o, b ≠ a → s3.heap.get? b = some o → h'.get? b = some o := fun b o hb e => sb.extBut b o hb e
  obtain ⟨n, en⟩ := id pl
  have off := sat3.off en
  have hma : a ∈ as := List.mem_of_getElem? hra
  refine hQ _ (sat3.bumpF (tk := s3.toks) hf (wr := [a]) (fun b o hb e => hk b o (fun q => hb (by rw [q]; exact List.mem_singleton.mpr rfl)) e) ?_) ?_ ?_
  · intro b hb
    cases List.mem_singleton.mp hb
    exact ⟨hn a hma, off.1, off.2⟩
  · exact k13.kx.trans ⟨⟨h', s3.toks, rfl⟩, fun b o n1 n2 n3 e => hk b o (fun q => n3 (by rw [q]; exact hX a hma)) e⟩
  · unfold setM
    rw [hg]
    exact M3.set r.toNat hra hk pl' (ints_set ia _)
end
end Mine
end

section
namespace Mine
open PySem PySem.W PySem.Calls PyProof.Rows

section
variable {C : Act} {ρ : Loc}
theorem forCoreP {x : Str} {px : Pos} {body : List Stmt} {K : Out → Prop} {I : Addr} {fp wr : List Addr} {n : Nat} {P : Nat → Value → Prop} {St : Nat → Heap → Prop} {s s2 : Shared} {Q : Flow → Shared → Prop}
    (W : Walks pg C.w C.A I fp wr n P St) (it : Nat → AV) (inv : Nat → Loc) (PP : Nat → Prop) (hp0 : PP 0) (hs : Sat C ρ s) (k2 : Kp s s2) (h0 : Sat C (inv 0) s2) (hst : St 0 s2.heap)
    (hfp : ∀ b ∈ fp, b ≠ C.env.locals ∧ ∀ y ∈ C.env.cells, y.2 ≠ b) (hwr : ∀ b ∈ wr, s.heap.get? b = none) (hseq : ∀ i h b o, b ∈ wr → St i h → h.get? b = some o → ∀ vs k, o.data ≠ .seq vs k)
    (its : ∀ i v s', P i v → Kf C s s' → Rep s'.heap v (it i)) (hk : Kd C x)
    (turn : ∀ i, i < n → PP i → Ex C ((x, it i) :: inv i) body (fun o => match o with | .next ρ' => Sub (inv (i + 1)) ρ' ∧ PP (i + 1) | .ret a => K (.ret a)))
    (done : PP n → K (.next (inv n))) (hQ : ∀ o fl s', K o → Kf C s s' → OutSat C o fl s' → Q fl s') :
    codeAny (model pg C.w) C.A (.forLoop (.Name x px) (.ref I) body [] C.env) (fun r s' => match r with | .ok f => Q f s' | .error e => cameBackBy (model pg C.w) C.A C.env nE e s') s2 := by
  have hw : ∀ i (s1 : Shared), Kf C s s1 → St i s1.heap → ∀ b ∈ wr, C.s₀.heap.get? b = none ∧ b ≠ C.env.locals ∧ (∀ y ∈ C.env.cells, y.2 ≠ b) ∧ ∀ o, s1.heap.get? b = some o → ∀ vs k, o.data ≠ .seq vs k := by
    intro i s1 k1 st b hb
    obtain ⟨⟨oL, hL⟩, hc⟩ := hs.has
    refine ⟨?_, fun q => ?_, fun y hy q => ?_, fun o e => hseq i _ b o hb st e⟩
    · cases e : C.s₀.heap.get? b with
      | none => rfl
      | some o => have := hs.keep b o e; rw [hwr b hb] at this; cases this
    · have := hwr b hb; rw [q, hL] at this; cases this
    · obtain ⟨oc, ho⟩ := hc y hy
      have := hwr b hb; rw [← q, ho] at this; cases this
  have kfw : ∀ (s1 : Shared) (h' : Heap) (tk : Nat), Kf C s s1 → (∀ b o, b ∉ wr → s1.heap.get? b = some o → h'.get? b = some o) → Kf C s { s1 with heap := h', toks := tk } := by
    rintro s1 h' tk ⟨⟨g, t, rfl⟩, hk1⟩ hk
    exact ⟨⟨h', tk, rfl⟩, fun b o n1 n2 e => hk b o (fun q => by rw [hwr b q] at e; cases e) (hk1 b o n1 n2 e)⟩
  refine codeAny_forLoop (fun k s' => ∃ i, i ≤ n ∧ k = n + 1 - i ∧ Kf C s s' ∧ Sat C (inv i) s' ∧ St i s'.heap ∧ PP i) (fun k s1 hI => ?_) (n + 1) ⟨0, Nat.zero_le _, rfl, k2.kf, h0, hst, hp0⟩
  obtain ⟨i, hi, rfl, k1, hs1, st1, hpi⟩ := hI
  by_cases hlt : i < n
  · refine W.item i s1 _ _ hlt st1 fun v h' tk hP st' hk' => ?_
    have hs1' := hs1.bump (tk := tk) hk' (hw i s1 k1 st1)
    have k1' := kfw s1 h' tk k1 hk'
    refine assign_Name (of_nE (store_ hs1' (its i v _ hP k1') hk fun s3 hs3 k3 => ?_))
    refine of_nE (turn i hlt hpi s3 _ hs3 fun o fl s4 hK k4 ho => ?_)
    have st4 : St (i + 1) s4.heap := W.frame _ _ _ st' fun b hb o e => by
      obtain ⟨n1, n2⟩ := hfp b hb
      exact k4.2 b o n1 n2 (k3.2 b o n1 n2 e)
    cases o with
    | next ρ' =>
      obtain ⟨rfl, hs4⟩ := ho
      exact ⟨n + 1 - (i + 1), by omega, i + 1, hlt, rfl, (k1'.trans k3).trans k4, hs4.weaken hK.1, st4, hK.2⟩
    | ret a =>
      obtain ⟨v, rfl, h5, r⟩ := ho
      exact hQ _ _ s4 hK ((k1'.trans k3).trans k4) ⟨v, rfl, h5, r⟩
  · have e : i = n := by omega
    subst e
    refine W.done s1 _ _ st1 fun h' tk hk' => ?_
    exact wpAny_execs_nil (hQ _ _ _ (done hpi) (kfw s1 h' tk k1 hk') ⟨rfl, hs1.bump hk' (hw i s1 k1 st1)⟩)

theorem Ex1.forP {x : Str} {px p : Pos} {e : Expr} {body : List Stmt} {K : Out → Prop} {n : Nat} {it : Nat → AV} (h : Src C ρ e n it) (inv : Nat → Loc) (PP : Nat → Prop) (hp0 : PP 0) (h0 : Sub (inv 0) ρ)
    (turn : ∀ i, i < n → PP i → Ex C ((x, it i) :: inv i) body (fun o => match o with | .next ρ' => Sub (inv (i + 1)) ρ' ∧ PP (i + 1) | .ret a => K (.ret a)))
    (done : PP n → K (.next (inv n))) (hk : Kd C x := by first | exact Or.inl rfl | exact Or.inr ⟨rfl, rfl⟩) (hs : ∀ x, foldedSetIterable e C.env x = pure x := by intro _; rfl) : Ex1 C ρ (.For (.Name x px) e body [] p) K := by
  intro s Q hS hQ
  refine wpAny_For (h s _ hS fun sB s2 I fp P St S => ?_) hs
  have hB := hS.keeps S.k1
  have hw : ∀ i v, P i v → i < n → Rep sB.heap v (it i) := fun i v hP hi => S.its i v hi hP
  -- the walk's items below n
  have W' : Walks pg C.w C.A I fp [I] n (fun i v => i < n ∧ P i v) St :=
    { sub := S.W.sub, frame := S.W.frame, done := S.W.done, self := S.W.self,
      item := fun i s Q E hi st hQ => S.W.item i s Q E hi st fun v h' tk hP => hQ v h' tk ⟨hi, hP⟩ }
  refine forCoreP (x := x) (K := K) W' it inv PP hp0 hB S.k2 ((hB.keeps S.k2).weaken h0) S.st (S.off hB) (fun b hb => by rw [List.mem_singleton.mp hb]; exact S.new) ?_ ?_ hk turn done fun o fl s' hK k ho => hQ o fl s' hK (S.k1.kf.trans k) ho
  · intro i h b o hb st e vs k hd
    rw [List.mem_singleton.mp hb] at e
    obtain ⟨us, hd'⟩ := S.seq i h o st e
    rw [hd] at hd'; cases hd'
  · rintro i v s' ⟨hi, hP⟩ kf
    exact (hw i v hP hi).ks (hB.ks kf)
end
end Mine
end

section
namespace Mine
open PySem PySem.W PySem.Calls PyProof.Rows

section
variable {C : Act} {ρ : Loc}
/-- a comprehension whose test always fails -/
theorem Ev.compF {elt iter test : Expr} {x : Str} {px p : Pos} {scope : Scope} {n : Nat} {it : Nat → AV} (cl : List (Str × Addr)) (ρc : Loc)
    (src : Src C ρ iter n it) (hz : n ≤ 1000000)
    (htest : ∀ Cn s₀ i, i < n → Tr (inn C scope cl Cn s₀) ((x, it i) :: ρc) test false)
    (hsub : Sub ρc ρ) (hcl : ∀ y ∈ cl, y ∈ C.env.cells)
    (hclos : closureFor scope C.env = pure cl := by with_unfolding_all rfl)
    (hρc : (ρc.all fun q => (cl.lookup q.1).isSome && ((relabel scope C.env).names.lookup q.1 == some .cell) && (C.env.kindOf q.1 == some .cell)) = true := by rfl)
    (hcell : ∀ y ∈ scope.names, y.2 ≠ .cell := by decide) (hkind : scope.kind = .function := by rfl)
    (hnames : ∀ y ∈ scope.names, y.2 = .local → scope.names.lookup y.1 = some .local := by decide) (hx : scope.names.lookup x = some .local := by rfl)
    (hnd : ((cl.map (·.1)).Nodup) := by first | decide | (simp only [List.map_cons, List.map_nil]; decide))
    (hs : ∀ x, foldedSetIterable iter C.env x = pure x := by intro _; rfl) :
    Ev C ρ (.ListComp elt [⟨.Name x px, iter, [test], 0⟩] scope p) (.b (.zs [])) := by
  have hρc' : ∀ Cn y b, ρc.lookup y = some b → ∃ c, (y, c) ∈ cl ∧ (compEnvC scope cl Cn C.env).kindOf y ≠ some .local ∧ C.env.kindOf y ≠ some .local := by
    intro Cn y b e
    have hm := mem_of_lookup e
    have h := List.all_eq_true.mp hρc _ hm
    simp only [Bool.and_eq_true, beq_iff_eq] at h
    obtain ⟨⟨h1, h2⟩, h3⟩ := h
    obtain ⟨c, hc⟩ := Option.isSome_iff_exists.mp h1
    refine ⟨c, mem_of_lookup hc, ?_, ?_⟩
    · show (relabel scope C.env).names.lookup y ≠ _
      rw [h2]; decide
    · rw [h3]; decide
  intro s Q hS hQ
  refine wpAny_ListComp_free (p := fun _ => false) (F := fun (v y : Value) => True) hclos hcell hkind hnames hx (src s _ hS fun sB s2 I fp P St S => ?_) hs
  have hB := hS.keeps S.k1
  have h2 := hB.keeps S.k2
  have W' : Walks pg C.w C.A I fp [I] n (fun i v => i < n ∧ P i v) St :=
    { sub := S.W.sub, frame := S.W.frame, done := S.W.done, self := S.W.self,
      item := fun i s Q E hi st hQ => S.W.item i s Q E hi st fun v h' tk hP => hQ v h' tk ⟨hi, hP⟩ }
  refine ⟨I, fp, [I], n, _, St, rfl, W', sizeL hz, S.st, fun b hb => ?_, ⟨fun Cn i v s₃ m₃ E' hC hP hn hm hk ht => ?_, fun Cn i v s₃ m₃ E' hC hP hp hn hm hk ht => nomatch hp⟩, fun D h' tk ys vs hD hl hpl hlen hP hF hk => ?_⟩
  · by_cases hI : b = I
    · subst hI; exact S.lt
    · obtain ⟨o, vs, k, e, _⟩ := S.fp b hb hI
      exact Heap.lt_size (S.k2.get b o e)
  · have hkeep : ∀ b o, sB.heap.get? b = some o → s₃.heap.get? b = some o := fun b o e => hk b o (fun q => by rw [List.mem_singleton.mp q, S.new] at e; cases e) (S.k2.get b o e)
    have hCn : sB.heap.get? Cn = Option.none := by
      cases e : sB.heap.get? Cn with
      | none => rfl
      | some o => exact absurd (Heap.lt_size (S.k2.get _ o e)) (Nat.not_lt.mpr hC)
    have sat := inn_sat (scope := scope) (cl := cl) (Cn := Cn) (x := x) (a := it i) (ρc := ρc) hB hkind hcl hnd hCn hkeep hn hm ((S.its i v hP.1 hP.2).ks (ks_of hkeep)) (lookup_relabel_local hx) hsub (hρc' Cn)
    exact of_nE (wpAny_tests_one (htest Cn _ i hP.1 s₃ _ sat fun s₄ k4 => ⟨rfl, k4⟩))
  · have hall : vs.filter (fun _ => false) = [] := by simp
    rw [hall] at hF
    have hys : ys.toList = [] := by
      revert hF; generalize ys.toList = l; intro hF; cases hF; rfl
    have hys' : ys = ([] : List Value).toArray := by apply Array.toList_inj.mp; simpa using hys
    subst hys'
    refine hQ (.ref D) _ (S.k1.trans ?_) ⟨D, [], rfl, hpl, .nil⟩
    obtain ⟨h2', t2, e2, hk2⟩ := S.k2
    refine ⟨h', tk, by rw [e2], fun b o e => hk b o (fun q => by rw [List.mem_singleton.mp q, S.new] at e; cases e) ?_⟩
    rw [e2]; exact hk2 b o e

/-- list(e), new -/
theorem list_new {e : Expr} {p q : Pos} {xs : List Int} {s : Shared} {Q : Value → Shared → Prop} (hg : Gb "list" (.type "list")) (h : Evs C ρ [e] [.b (.zs xs)]) (hs : Sat C ρ s) (hz : xs.length ≤ 1000000)
    (hQ : ∀ s' D us, Kp s s' → s.heap.get? D = none → s'.heap.PlainList D us.toArray → IntsAre us xs → Q (.ref D) s') (hg' : C.env.kindOf "list" = some .globalImplicit := by rfl) :
    wpAny (model pg C.w) C.A (eval (.Call (.Name "list" p) [e] [] q) C.env) Q nE s := by
  refine wpAny_Call_NameR (ev_builtin hg hs hg' (by decide) ?_)
  refine PySem.callWith_type (backTo_plain h.1) (h.args hs fun vs s1 k1 r1 => ?_)
  obtain _ | ⟨⟨a, us, rfl, ⟨n, e⟩, i⟩, _ | _⟩ := r1
  refine call_list_seq (hsz := by rw [List.size_toArray, i.length]; exact sizeL hz) a (.inl rfl) e rfl rfl fun h' c' hk hD => ?_
  refine hQ _ _ us (k1.trans ⟨h', _, rfl, hk⟩) ?_ ⟨_, hD⟩ i
  cases e : s.heap.get? s1.heap.objs.size with
  | none => rfl
  | some o => exact absurd (Heap.lt_size (k1.get _ o e)) (Nat.lt_irrefl _)

theorem assign_at {o i : Expr} {pos : Pos} {v : Value} {env : Env} {w : World} {A : Around} {s : Shared} {Q : Unit → Shared → Prop} (h : wpAny (model pg w) A (eval o env) (fun ov s1 => wpAny (model pg w) A (eval i env) (fun iv s2 => wpAny (model pg w) A (setItem ov iv v) Q nE s2) nE s1) nE s)  :
    wpAny (model pg w) A (assign (.Subscript o i pos) env v) Q nE s := by
  rw [arm_assign_Subscript]
  refine wpAny_bind (wpAny_holding (wpAny_mono h (fun ov s1 h1 => ?_) fun _ _ e => e))
  refine wpAny_bind (wpAny_holding (wpAny_mono h1 (fun iv s2 h2 => ?_) fun _ _ e => e))
  refine wpAny_bind (wpAny_standAt ?_)
  refine wpAny_bind (wpAny_holding (wpAny_mono h2 (fun _ s3 h3 => ?_) fun _ _ e => e))
  exact wpAny_release h3

/-- the rows at two places change places -/
noncomputable def swapL {α : Type} (l : List α) (i j : Nat) (x y : α) : List α := (l.set i y).set j x
theorem store_row {o i : Expr} {p : Pos} {D b : Addr} {us : List Addr} {k : Int} {s : Shared} {Q : Unit → Shared → Prop} (hf : Flat ρ) (ho : Ev C ρ o (.b (.ref D))) (hi : Ev C ρ i (.b (.int k))) (hs : Sat C ρ s) (pl : s.heap.PlainList D (us.map Value.ref).toArray) (hD : C.s₀.heap.get? D = none)
    (h0 : 0 ≤ k) (hk : k < us.length) (hz : us.length ≤ 1000) (hQ : ∀ s', Sat C ρ s' → Kx [D] s s' → s'.heap.PlainList D ((us.set k.toNat b).map Value.ref).toArray → Q () s') : wpAny (model pg C.w) C.A (assign (.Subscript o i p) C.env (.ref b)) Q nE s := by
  refine assign_at (ho s _ hs fun ov s1 k1 r1 => hi s1 _ (hs.keeps k1) fun iv s2 k2 r2 => ?_)
  have r1' : ov = .ref D := r1
  subst r1'
  obtain ⟨t, rfl⟩ := r2
  have pl2 := plain_ks (k1.trans k2).ks pl
  have sat2 := (hs.keeps k1).keeps k2
  refine plain_set pl2 h0 (by rw [List.length_map]; exact hk) (by rw [List.length_map]; omega) fun h' pl' sb => ?_
  obtain ⟨n, en⟩ := id pl2
  have off := sat2.off en
  have hk' : ∀ b o, b ≠ D → s2.heap.get? b = some o → h'.get? b = some o := fun b o hb e => sb.extBut b o hb e
  refine hQ _ (sat2.bumpF (tk := s2.toks) hf (wr := [D]) (fun b o hb e => hk' b o (fun q => hb (by rw [q]; exact List.mem_singleton.mpr rfl)) e) ?_) ?_ ?_
  · intro b hb
    cases List.mem_singleton.mp hb
    exact ⟨hD, off.1, off.2⟩
  · exact (k1.trans k2).kX.trans ⟨⟨h', s2.toks, rfl⟩, fun b o n3 e => hk' b o (fun q => n3 (by rw [q]; exact List.mem_singleton.mpr rfl)) e⟩
  · rw [List.map_set]; exact pl'
theorem swapP {o1 i1 o2 i2 o3 i3 o4 i4 : Expr} {p1 p2 p3 p4 tp tp2 q : Pos} {k1 k2 : Nat} {D a b : Addr} {as : List Addr} {m : List (List Int)} {r t : Int} {s : Shared} {Q : Flow → Shared → Prop} (X : List Addr) (hf : Flat ρ)
    (h1 : Ev C ρ o1 (.b (.ref D))) (g1 : Ev C ρ i1 (.b (.int r))) (h2 : Ev C ρ o2 (.b (.ref D))) (g2 : Ev C ρ i2 (.b (.int t))) (h3 : Ev C ρ o3 (.b (.ref D))) (g3 : Ev C ρ i3 (.b (.int t))) (h4 : Ev C ρ o4 (.b (.ref D))) (g4 : Ev C ρ i4 (.b (.int r)))
    (hs : Sat C ρ s) (M : Mat s.heap D as m) (hX : D ∈ X) (hD : C.s₀.heap.get? D = none) (r0 : 0 ≤ r) (r1 : as[r.toNat]? = some a) (t0 : 0 ≤ t) (t1 : as[t.toNat]? = some b) (hz : as.length ≤ 1000)
    (hQ : ∀ s', Sat C ρ s' → KX C X s s' → (∀ c o, c ≠ D → s.heap.get? c = some o → s'.heap.get? c = some o) → s'.heap.PlainList D ((swapL as r.toNat t.toNat a b).map Value.ref).toArray → Q .next s')
    (hsw : swapsWithSole [.Tuple [.Subscript o1 i1 p1, .Subscript o2 i2 p2] k1 tp] (.Tuple [.Subscript o3 i3 p3, .Subscript o4 i4 p4] k2 tp2) q.line C.env = pure false := by rfl)
    (hw : swappedStores [.Tuple [.Subscript o1 i1 p1, .Subscript o2 i2 p2] k1 tp] (.Tuple [.Subscript o3 i3 p3, .Subscript o4 i4 p4] k2 tp2) C.env = pure none := by rfl)
    (he : starEach [.Subscript o3 i3 p3, .Subscript o4 i4 p4] C.env = (false, eval (.Subscript o3 i3 p3) C.env) :: starEach [.Subscript o4 i4 p4] C.env := by rfl) (he' : starEach [.Subscript o4 i4 p4] C.env = (false, eval (.Subscript o4 i4 p4) C.env) :: starEach [] C.env := by rfl)
    (hss3 : ∀ a u, subscripted i3 false (.ref a) (.int t u) = operate [.ref a, .int t u] (getItem (.ref a) (.int t u)) := by with_unfolding_all (intro _ _; rfl))
    (hss4 : ∀ a u, subscripted i4 false (.ref a) (.int r u) = operate [.ref a, .int r u] (getItem (.ref a) (.int r u)) := by with_unfolding_all (intro _ _; rfl)) :
    wpAny (model pg C.w) C.A (exec (.Assign [.Tuple [.Subscript o1 i1 p1, .Subscript o2 i2 p2] k1 tp] (.Tuple [.Subscript o3 i3 p3, .Subscript o4 i4 p4] k2 tp2) q) C.env) Q nE s := by
  have rl : r.toNat < as.length := (List.getElem?_eq_some_iff.mp r1).1
  have tl : t.toNat < as.length := (List.getElem?_eq_some_iff.mp t1).1
  refine Assign_Tuple (wpAny_Tuple (wpAny_items_cons (ev_rowP h3 g3 hs M t0 t1 hz (fun s1 j1 => wpAny_items_cons (ev_rowP h4 g4 (hs.keeps j1) (M.ks j1.ks) r0 r1 hz (fun s2 j2 => wpAny_items_nil ⟨?_, ?_⟩) hss4) he') hss3) he)) hsw hw
  · exact sizeL (by show 2 ≤ 1000000; decide)
  · have j3 : Kp s2 { s2 with heap := s2.heap.push { cls := .type "tuple", data := .seq [Value.ref b, .ref a].toArray } } := Kp.push _ _
    have j13 := (j1.trans j2).trans j3
    have sat3 := hs.keeps j13
    refine wpAny_assign_Tuple hs.ok.handled (items := #[Value.ref b, .ref a]) ⟨_, Heap.get?_push_size _ rfl, rfl, _, rfl⟩ rfl rfl fun h' he => ?_
    have j4 := kp_ext (s := { s2 with heap := s2.heap.push { cls := .type "tuple", data := .seq [Value.ref b, .ref a].toArray } }) he
    have sat4 := sat3.keeps j4
    have j14 := j13.trans j4
    have M4 := M.ks j14.ks
    show wpAny _ _ (do holding [.ref a] (assign (.Subscript o1 i1 p1) C.env (.ref b)); do holding [] (assign (.Subscript o2 i2 p2) C.env (.ref a)); pure ()) _ _ _
    refine wpAny_bind (wpAny_holding (store_row hf h1 g1 sat4 M4.outer hD r0 (by omega) hz fun s5 sat5 x5 pl5 => ?_))
    refine wpAny_bind (wpAny_holding (store_row hf h2 g2 sat5 pl5 hD t0 (by rw [List.length_set]; omega) (by rw [List.length_set]; omega) fun s6 sat6 x6 pl6 => ?_))
    have x46 := x5.trans x6
    refine wpAny_pure (hQ s6 sat6 ?_ (fun c o hc e => x46.2 c o (fun q => hc (List.mem_singleton.mp q)) (j14.get c o e)) pl6)
    exact j14.kx.trans ⟨x46.1, fun b o n1 n2 n3 e => x46.2 b o (fun q => n3 (by rw [List.mem_singleton.mp q]; exact hX)) e⟩
end
end Mine
end

section
set_option maxRecDepth 100000
namespace Mine
open PySem PySem.W PySem.Calls PyProof.Rows

theorem Sm.ofPow {n : Int} {k : Nat} (h : n.natAbs ≤ 2 ^ k) (hk : k < 4000) : Sm n := Nat.lt_of_le_of_lt h (Nat.pow_lt_pow_right (by decide) hk)
theorem Sm.small {n : Int} (h : n.natAbs ≤ 1000000) : Sm n := Sm.ofPow (k := 20) (by omega) (by decide)
theorem SmL.ofNb {k : Nat} {xs : List Int} (h : Nb k xs) (hk : k < 4000) : SmL xs := fun x hx => Sm.ofPow (h.mem hx) hk

theorem c_zderive {xs : List Int} (hx : xs.length ≤ 1000) (sx : SmL xs) : Fn 1 155 [.b (.zs xs)] (.b (.zs (deriveL xs))) := by
  refine Fn.enter ["p"] (fun w => by walk_at "ent") (fun w => by walk_at "entc") (bind1 fun v => by rfl) (by rfl) (by decide) rfl ?_
  intro w A L s₀ ok
  refine Ex.ret (Ev.sliceFrom (Ev.compEnum gb_enumerate (fun i n => n * (i : Int)) (Evs.cons Ev.name .nil) (by omega) fun Cn s i n hn => ?_) Ev.int (by decide) (by simp; omega)) rfl
  have hi : i < xs.length := (List.getElem?_eq_some_iff.mp hn).1
  exact Ev.mul Ev.name Ev.name (sx n (List.mem_of_getElem? hn)) (Sm.small (by omega))

theorem c_zpower {xs : List Int} {m k : Nat} (hx : xs.length ≤ 20) (hm : m ≤ 8) (hk : k ≤ 100) (hb : Nb k xs) : Fn 2 131 [.b (.zs xs), .b (.int m)] (.b (.zs (powG [1] xs m))) := by
  refine Fn.enter ["p", "many"] (fun w => by walk_at "ent") (fun w => by walk_at "entc") (bind2 fun v u => by rfl) (by rfl) (by decide) rfl ?_
  intro w A L s₀ ok
  refine Ex.step (Ex1.assignTs (xs := ["found", "factor"]) (Ev.tup (as := [.zs [1], .zs xs]) (Evs.cons (Ev.listI (xs := [1]) (Evs.cons Ev.int .nil)) (Evs.cons (Ev.callT gb_list (Evs.cons Ev.name .nil) (Bt.list (by omega))) .nil))) (by intro x hx; simp at hx; rcases hx with rfl | rfl <;> exact Or.inl rfl) rfl) ?_
  refine Ex.cons (K₁ := fun o => ∃ ρ', o = .next ρ' ∧ List.lookup ("found" : Str) ρ' = some (.b (.zs (powG [1] xs m)))) ?_ (fun ρ' h => ?_) (fun a h => by obtain ⟨_, h, _⟩ := h; cases h)
  · refine Ex1.while (σ := List Int × List Int × Nat) (fun x => [("found", .b (.zs x.1)), ("factor", .b (.zs x.2.1)), ("many", .b (.int x.2.2))])
      (fun x => powG x.1 x.2.1 x.2.2 = powG [1] xs m ∧ ∃ a b, Nb a x.1 ∧ Nb b x.2.1 ∧ a + b * x.2.2 ≤ k * m ∧ b ≤ k * m + k ∧ x.1.length + x.2.1.length * x.2.2 ≤ 1 + xs.length * m ∧ x.2.1.length ≤ 200) (fun x => x.2.2) (fun x => decide ((0 : Int) < x.2.2)) (fun x hP => Tr.cmp Ev.name Ev.int Cmp.gt) (fun x hP hb0 => ?_) (fun x hP hb0 => ?_) ([1], xs, m) ?_ (by walk_at "sub")
    · obtain ⟨found, factor, q⟩ := x
      obtain ⟨hP, a, b, h1, h2, h3, h4, h5, h6⟩ := hP
      simp only at h1 h2 h3 h4 h5 h6 hP hb0 ⊢
      have hq : q ≠ 0 := by have : (0 : Int) < q := by simpa using hb0
                            omega
      have hkm : k * m ≤ 100 * 8 := Nat.mul_le_mul hk hm
      have hxm : xs.length * m ≤ 20 * 8 := Nat.mul_le_mul hx hm
      have hl1 : found.length ≤ 400 := by omega
      have s1 : SmL found := SmL.ofNb h1 (by omega)
      have s2 : SmL factor := SmL.ofNb h2 (by omega)
      refine Ex.cons (K₁ := fun o => o = .next [("found", .b (.zs (if q % 2 = 1 then mulL found factor else found))), ("factor", .b (.zs factor)), ("many", .b (.int q))] ∨ ∃ ρ', o = .next ρ' ∧ Sub [("found", .b (.zs (if q % 2 = 1 then mulL found factor else found))), ("factor", .b (.zs factor)), ("many", .b (.int q))] ρ') (Ex1.ite (Tr.cmp (Ev.fmod Ev.name Ev.int (by decide)) Ev.int Cmp.eq) (fun h => ?_) (fun h => ?_)) (fun ρ' h => ?_) (fun a h => by rcases h with h | ⟨_, h, _⟩ <;> cases h)
      · have e : q % 2 = 1 := by
          have : (q : Int).fmod 2 = 1 := by simpa using h
          rw [Int.fmod_eq_emod_of_nonneg _ (by decide)] at this
          omega
        refine Ex.step (Ex1.assign (Ev.call gf_zmul if_zmul (Evs.cons Ev.name (Evs.cons Ev.name .nil)) (c_zmul hl1 (by omega) s1 s2))) (Ex.nil (Or.inr ⟨_, rfl, ?_⟩))
        rw [if_pos e]
        walk_at "sub"
      · have e : ¬ q % 2 = 1 := by
          have : ¬ (q : Int).fmod 2 = 1 := by simpa using h
          rw [Int.fmod_eq_emod_of_nonneg _ (by decide)] at this
          omega
        refine Ex.nil (Or.inl ?_)
        rw [if_neg e]
      · have hsub : Sub [("found", .b (.zs (if q % 2 = 1 then mulL found factor else found))), ("factor", .b (.zs factor)), ("many", .b (.int q))] ρ' := by
          rcases h with h | ⟨ρ'', h, hs⟩
          · cases h; exact Sub.rfl'
          · cases h; exact hs
        refine Ex.sub ?_ hsub
        refine Ex.step (Ex1.assign (Ev.ifl (Tr.cmp Ev.name Ev.int Cmp.gt) (fun h => Ev.call gf_zmul if_zmul (Evs.cons Ev.name (Evs.cons Ev.name .nil)) (c_zmul (by omega) (by omega) s2 s2)) fun h => Ev.name)) ?_
        refine Ex.step (Ex1.assign (Ev.fdiv Ev.name Ev.int (by decide) (Sm.small (by decide)))) (Ex.nil ⟨(if q % 2 = 1 then mulL found factor else found, if 1 < q then mulL factor factor else factor, q / 2), ?_, ⟨?_, ?_⟩, by simp only; omega⟩)
        · have e1 : (q : Int).fdiv 2 = ((q / 2 : Nat) : Int) := by rw [Int.fdiv_eq_ediv_of_nonneg _ (by decide)]; rfl
          have e2 : (decide ((1 : Int) < (q : Int))) = decide (1 < q) := decide_eq_decide.mpr (by omega)
          rw [e1, e2]
          simp only [decide_eq_true_eq]
          walk_at "sub"
        · rw [← hP]; exact (powG_step found factor hq).symm
        · refine ⟨if q % 2 = 1 then a + b else a, if 1 < q then b + b else b, ?_, ?_, ?_, ?_, ?_, ?_⟩
          · split
            · exact h1.mul h2
            · exact h1
          · split
            · exact h2.mul h2
            · exact h2
          · have e := Nat.div_add_mod q 2
            have e3 : b * q = b * (2 * (q / 2)) + b * (q % 2) := by rw [← Nat.mul_add, e]
            have e4 : (b + b) * (q / 2) = b * (2 * (q / 2)) := by rw [← Nat.mul_assoc, Nat.mul_comm b 2, Nat.two_mul]
            try simp only
            split <;> split
            · rename_i h1 h2; rw [h1] at e3; omega
            · rename_i h1 h2
              have : q = 1 := by omega
              subst this; simp at *; omega
            · rename_i h1 h2
              have : q % 2 = 0 := by omega
              rw [this] at e3; omega
            · rename_i h1 h2
              have : q = 0 := by omega
              omega
          · try simp only
            split
            · rename_i h7
              have : b * 2 ≤ b * q := Nat.mul_le_mul_left _ (by omega)
              omega
            · omega
          · have e := Nat.div_add_mod q 2
            have e3 : factor.length * q = factor.length * (2 * (q / 2)) + factor.length * (q % 2) := by rw [← Nat.mul_add, e]
            have e4 : (factor.length + factor.length) * (q / 2) = factor.length * (2 * (q / 2)) := by rw [← Nat.mul_assoc, Nat.mul_comm factor.length 2, Nat.two_mul]
            have m1 := mulL_length found factor
            have m2 := mulL_length factor factor
            have m3 : (mulL factor factor).length * (q / 2) ≤ (factor.length + factor.length) * (q / 2) := Nat.mul_le_mul_right _ (by omega)
            try simp only
            split <;> split
            · rename_i h1 h2; rw [h1] at e3; omega
            · rename_i h1 h2
              have : q = 1 := by omega
              subst this; simp at *; omega
            · rename_i h1 h2
              have : q % 2 = 0 := by omega
              rw [this] at e3; omega
            · rename_i h1 h2
              have : q = 0 := by omega
              omega
          · try simp only
            have m2 := mulL_length factor factor
            split
            · rename_i h7
              have : factor.length * 2 ≤ factor.length * q := Nat.mul_le_mul_left _ (by omega)
              omega
            · exact h6
    · obtain ⟨found, factor, q⟩ := x
      have hq : q = 0 := by have : ¬ (0 : Int) < q := by simpa using hb0
                            omega
      refine ⟨_, rfl, ?_⟩
      have := hP.1
      simp only [hq, powG_zero] at this ⊢
      rw [← this]
      rfl
    · refine ⟨rfl, 0, k, show nrm [1] ≤ 2 ^ 0 by decide, hb, by simp, by omega, ?_, show xs.length ≤ 200 by omega⟩
      show 1 + xs.length * m ≤ 1 + xs.length * m
      exact Nat.le_refl _
  · obtain ⟨ρ'', h, hl⟩ := h
    cases h
    exact Ex.ret (Ev.name hl) rfl
end Mine
end

section
set_option maxRecDepth 100000
namespace Mine
open PySem PySem.W PySem.Calls PyProof.Rows

theorem lead_last {xs : List Int} (h : xs ≠ []) : xs.getLast? = some (leadL xs) := by
  unfold leadL
  rw [List.getLast?_eq_some_getLast h]; rfl

theorem c_pseudo {a b : List Int} {ka kb : Nat} (ha : a.length ≤ 100) (hb : b.length ≤ 100) (h0 : b ≠ []) (na : Nb ka a) (nb : Nb kb b) (hK : ka + (kb + 1) * (manyL a b + 1) ≤ 3000) :
    Fn 4 169 [.b (.zs a), .b (.zs b)] (.tup [.zs (pseudoL a b).1, .zs (pseudoL a b).2, .int (manyL a b)]) := by
  refine Fn.enter ["a", "b"] (fun w => by walk_at "ent") (fun w => by walk_at "entc") (bind2 fun v u => by rfl) (by rfl) (by decide) rfl ?_
  intro w A L s₀ ok
  have hb1 : 0 < b.length := List.length_pos_iff.mpr h0
  have hmul : (kb + 1) * (manyL a b + 1) = (kb + 1) * manyL a b + (kb + 1) := by rw [Nat.mul_add, Nat.mul_one]
  have sb : SmL b := SmL.ofNb nb (by omega)
  have slead : Sm (leadL b) := Sm.ofPow (Nat.le_trans (leadL_natAbs b) nb) (by omega)
  refine Ex.step (Ex1.exprNone (Ev.call gf_check_bottom if_check_bottom (Evs.cons Ev.name .nil) (c_check_bottom (by omega) h0))) ?_
  refine Ex.step (Ex1.assign (Ev.callB gb_max (Evs.cons Ev.int (Evs.cons (Ev.add (Ev.sub (Ev.callB gb_len (Evs.cons Ev.name .nil) (Bn.len (by omega))) (Ev.callB gb_len (Evs.cons Ev.name .nil) (Bn.len (by omega)))) Ev.int) .nil)) Bn.max)) ?_
  have em : (max (0 : Int) ((a.length : Int) - (b.length : Int) + 1)) = ((manyL a b : Nat) : Int) := by unfold manyL; omega
  rw [em]
  refine Ex.step (Ex1.assignT (xs := ["rest", "found", "left", "first"]) (Ev.tup (as := [.zs a, .zs [], .int (manyL a b), .int (leadL b)]) (Evs.cons (Ev.callT gb_list (Evs.cons Ev.name .nil) (Bt.list (by omega))) (Evs.cons (Ev.listI (xs := []) .nil) (Evs.cons Ev.name (Evs.cons (Ev.call gf_zlead if_zlead (Evs.cons Ev.name .nil) (c_zlead (by omega))) .nil))))) isNames4 (by intro x hx; simp at hx; rcases hx with rfl | rfl | rfl | rfl <;> exact Or.inl rfl) rfl) ?_
  refine Ex.cons (K₁ := fun o => ∃ (r f : List Int) (l k : Nat), o = .next [("a", .b (.zs a)), ("b", .b (.zs b)), ("many", .b (.int (manyL a b))), ("first", .b (.int (leadL b))), ("rest", .b (.zs r)), ("found", .b (.zs f)), ("left", .b (.int l))] ∧ psG b a [] (manyL a b) = (r, f, l) ∧ Nb k r ∧ Nb k f ∧ k + (kb + 1) * l ≤ ka + (kb + 1) * manyL a b ∧ r.length ≤ 100 ∧ f.length ≤ 300 ∧ l ≤ manyL a b) ?_ (fun ρ' h => ?_) (fun a h => by obtain ⟨_, _, _, _, h, _⟩ := h; cases h)
  · refine Ex1.while (σ := List Int × List Int × Nat) (fun x => [("a", .b (.zs a)), ("b", .b (.zs b)), ("many", .b (.int (manyL a b))), ("first", .b (.int (leadL b))), ("rest", .b (.zs x.1)), ("found", .b (.zs x.2.1)), ("left", .b (.int x.2.2))])
      (fun x => psG b x.1 x.2.1 x.2.2 = psG b a [] (manyL a b) ∧ x.1.length ≤ 100 ∧ x.2.1.length ≤ 300 ∧ x.1.length + 1 ≤ b.length + x.2.2 ∧ x.2.2 ≤ manyL a b ∧ ∃ k, Nb k x.1 ∧ Nb k x.2.1 ∧ k + (kb + 1) * x.2.2 ≤ ka + (kb + 1) * manyL a b) (fun x => x.1.length) (fun x => decide ((b.length : Int) ≤ x.1.length)) (fun x hP => Tr.cmp (Ev.callB gb_len (Evs.cons Ev.name .nil) (Bn.len (by have := hP.2.1; omega))) (Ev.callB gb_len (Evs.cons Ev.name .nil) (Bn.len (by omega))) Cmp.ge) (fun x hP hb0 => ?_) (fun x hP hb0 => ?_) (a, [], manyL a b) ?_ (by walk_at "sub")
    · obtain ⟨r, f, l⟩ := x
      obtain ⟨hP, h1, h2, h3, h3', k, h4, h5, h6⟩ := hP
      simp only at hP h1 h2 h3 h3' h4 h5 h6 hb0 ⊢
      have hle : b.length ≤ r.length := by have : (b.length : Int) ≤ r.length := by simpa using hb0
                                           omega
      have hl : 1 ≤ l := by omega
      have hl' : (kb + 1) * l = (kb + 1) * (l - 1) + (kb + 1) := by
        conv => lhs; rw [show l = (l - 1) + 1 by omega, Nat.mul_add, Nat.mul_one]
      have hr0 : r ≠ [] := by rintro rfl; simp at hle; exact h0 hle
      have sr : SmL r := SmL.ofNb h4 (by omega)
      have sf : SmL f := SmL.ofNb h5 (by omega)
      have sl : Sm (leadL r) := Sm.ofPow (Nat.le_trans (leadL_natAbs r) h4) (by omega)
      have ep : (((r.length : Int) - (b.length : Int))) = ((r.length - b.length : Nat) : Int) := by omega
      have L1 := scaleL_length r (leadL b)
      have L2 := scaleL_length f (leadL b)
      have L3 := scaleL_length b (leadL r)
      have L4 := raiseL_length (scaleL b (leadL r)) (r.length - b.length)
      have L5 := raiseL_length [-(leadL r)] (r.length - b.length)
      simp only [List.length_singleton] at L5
      refine Ex.step (Ex1.assignTs (xs := ["number", "power"]) (Ev.tup (as := [.int (leadL r), .int ((r.length : Int) - b.length)]) (Evs.cons (Ev.last Ev.name (Ev.neg Ev.int) (lead_last hr0)) (Evs.cons (Ev.sub (Ev.callB gb_len (Evs.cons Ev.name .nil) (Bn.len (by omega))) (Ev.callB gb_len (Evs.cons Ev.name .nil) (Bn.len (by omega)))) .nil))) (by walk_at "kd2") rfl) ?_
      rw [ep]
      refine Ex.step (Ex1.assign (Ev.call gf_zsub if_zsub (Evs.cons (Ev.call gf_zscale if_zscale (Evs.cons Ev.name (Evs.cons Ev.name .nil)) (c_zscale (by omega) sf slead)) (Evs.cons (Ev.call gf_zraise if_zraise (Evs.cons (Ev.listI (xs := [-(leadL r)]) (Evs.cons (Ev.neg Ev.name) .nil)) (Evs.cons Ev.name .nil)) (c_zraise (by simp) (by omega))) .nil)) (c_zsub (by omega) (by omega)))) ?_
      refine Ex.step (Ex1.assign (Ev.call gf_zsub if_zsub (Evs.cons (Ev.call gf_zscale if_zscale (Evs.cons Ev.name (Evs.cons Ev.name .nil)) (c_zscale (by omega) sr slead)) (Evs.cons (Ev.call gf_zraise if_zraise (Evs.cons (Ev.call gf_zscale if_zscale (Evs.cons Ev.name (Evs.cons Ev.name .nil)) (c_zscale (by omega) sb sl)) (Evs.cons Ev.name .nil)) (c_zraise (by omega) (by omega))) .nil)) (c_zsub (by omega) (by omega)))) ?_
      refine Ex.step (Ex1.augSub Ev.int) (Ex.nil ⟨(psRest b r, psFound b r f, l - 1), ?_, ⟨?_, ?_, ?_, ?_, ?_, k + kb + 1, ?_, ?_, ?_⟩, psRest_lt h0 hle⟩)
      · have e : ((l - 1 : Nat) : Int) = (l : Int) - 1 := by omega
        show Sub [_, _, _, _, _, _, ("left", .b (.int ((l - 1 : Nat) : Int)))] _
        rw [e]
        walk_at "sub"
      · rw [← hP]; exact (psG_step h0 hle).symm
      · show (psRest b r).length ≤ 100
        have := psRest_lt h0 hle; omega
      · show (psFound b r f).length ≤ 300
        unfold psFound
        have := subL_length (scaleL f (leadL b)) (raiseL [-(leadL r)] (r.length - b.length))
        omega
      · show (psRest b r).length + 1 ≤ b.length + (l - 1)
        have := psRest_lt h0 hle; omega
      · show l - 1 ≤ manyL a b
        omega
      · exact Nb.psRest h4 nb
      · exact Nb.psFound h4 h5 nb
      · show k + kb + 1 + (kb + 1) * (l - 1) ≤ _
        omega
    · obtain ⟨r, f, l⟩ := x
      obtain ⟨hP, h1, h2, h3, h3', k, h4, h5, h6⟩ := hP
      have hle : ¬ b.length ≤ r.length := by have : ¬ (b.length : Int) ≤ r.length := by simpa using hb0
                                             omega
      exact ⟨r, f, l, k, rfl, by rw [← hP, psG_stop hle], h4, h5, h6, h1, h2, h3'⟩
    · refine ⟨rfl, ha, by simp, ?_, Nat.le_refl _, ka, na, Nb.nil, Nat.le_refl _⟩
      show a.length + 1 ≤ b.length + manyL a b
      unfold manyL; omega
  · obtain ⟨r, f, l, k, h, e, h4, h5, h6, h7, h8, h9⟩ := h
    cases h
    have hm100 : manyL a b ≤ 101 := by unfold manyL; omega
    have hpow : (leadL b ^ l).natAbs ≤ 2 ^ (kb * l) := by
      rw [Int.natAbs_pow, Nat.pow_mul]
      exact Nat.pow_le_pow_left (Nat.le_trans (leadL_natAbs b) nb) l
    have hkl : kb * l ≤ (kb + 1) * l := Nat.mul_le_mul_right _ (by omega)
    have smore : Sm (leadL b ^ l) := Sm.ofPow hpow (by omega)
    refine Ex.step (Ex1.assign (Ev.pow Ev.name Ev.name slead (by omega) (by omega))) ?_
    rw [Int.toNat_natCast]
    refine Ex.ret (Ev.tup (as := [.zs (scaleL f (leadL b ^ l)), .zs (scaleL r (leadL b ^ l)), .int (manyL a b)]) (Evs.cons (Ev.call gf_zscale if_zscale (Evs.cons Ev.name (Evs.cons Ev.name .nil)) (c_zscale (by omega) (SmL.ofNb h5 (by omega)) smore)) (Evs.cons (Ev.call gf_zscale if_zscale (Evs.cons Ev.name (Evs.cons Ev.name .nil)) (c_zscale (by omega) (SmL.ofNb h4 (by omega)) smore)) (Evs.cons Ev.name .nil)))) ?_
    show AV.tup _ = AV.tup _
    unfold pseudoL
    rw [e]
end Mine
end

section
set_option maxRecDepth 100000
namespace Mine
open PySem PySem.W PySem.Calls PyProof.Rows

/-- sizes at which pseudo walks -/
noncomputable def PsOk (a b : List Int) : Prop := a.length ≤ 100 ∧ b.length ≤ 100 ∧ b ≠ [] ∧ ∃ ka kb, Nb ka a ∧ Nb kb b ∧ ka + (kb + 1) * (manyL a b + 1) ≤ 3000
theorem c_pseudo' {a b : List Int} (h : PsOk a b) : Fn 4 169 [.b (.zs a), .b (.zs b)] (.tup [.zs (pseudoL a b).1, .zs (pseudoL a b).2, .int (manyL a b)]) := by
  obtain ⟨h1, h2, h3, ka, kb, h4, h5, h6⟩ := h
  exact c_pseudo h1 h2 h3 h4 h5 h6

theorem c_zpseudo_rest {a b : List Int} (h : PsOk a b) : Fn 5 176 [.b (.zs a), .b (.zs b)] (.b (.zs (pseudoL a b).2)) := by
  refine Fn.enter ["a", "b"] (fun w => by walk_at "ent") (fun w => by walk_at "entc") (bind2 fun v u => by rfl) (by rfl) (by decide) rfl ?_
  intro w A L s₀ ok
  exact Ex.ret (Ev.idxT (Ev.call gf_pseudo if_pseudo (Evs.cons Ev.name (Evs.cons Ev.name .nil)) (c_pseudo' h)) Ev.int (by decide) (by decide) rfl) rfl

theorem psG_fst_length (b : List Int) (hb : b ≠ []) : ∀ (n : Nat) (rest found : List Int) (left : Nat), rest.length ≤ n → (psG b rest found left).1.length < b.length
  | 0, rest, found, left, h => by
    have : ¬ b.length ≤ rest.length := by have := List.length_pos_iff.mpr hb; omega
    rw [psG_stop this]
    have := List.length_pos_iff.mpr hb
    show rest.length < _
    omega
  | n + 1, rest, found, left, h => by
    by_cases h1 : b.length ≤ rest.length
    · rw [psG_step hb h1]
      have := psRest_lt hb h1
      exact psG_fst_length b hb n _ _ _ (by omega)
    · rw [psG_stop h1]
      show rest.length < _
      omega
theorem pseudoL_length {a b : List Int} (hb : b ≠ []) : (pseudoL a b).2.length < b.length := by
  unfold pseudoL
  have h1 := scaleL_length (psG b a [] (manyL a b)).1 (leadL b ^ (psG b a [] (manyL a b)).2.2)
  have h2 := psG_fst_length b hb _ a [] (manyL a b) (Nat.le_refl _)
  show (scaleL _ _).length < _
  omega

theorem c_full_rest {a b : List Int} (h : PsOk a b) (hab : b.length ≤ a.length + 1) : Fn 5 186 [.b (.zs a), .b (.zs b)] (.b (.zs (pseudoL a b).2)) := by
  refine Fn.enter ["a", "b"] (fun w => by walk_at "ent") (fun w => by walk_at "entc") (bind2 fun v u => by rfl) (by rfl) (by decide) rfl ?_
  intro w A L s₀ ok
  have hb1 : 0 < b.length := List.length_pos_iff.mpr h.2.2.1
  refine Ex.step (Ex1.assignT (xs := ["quotient", "rest", "power"]) (Ev.call gf_pseudo if_pseudo (Evs.cons Ev.name (Evs.cons Ev.name .nil)) (c_pseudo' h)) isNames3 (by walk_at "kd3") rfl) ?_
  refine Ex.step (Ex1.assign (Ev.sub (Ev.add (Ev.sub (Ev.call gf_zdegree if_zdegree (Evs.cons Ev.name .nil) (c_zdegree (by have := h.1; omega))) (Ev.call gf_zdegree if_zdegree (Evs.cons Ev.name .nil) (c_zdegree (by have := h.2.1; omega)))) Ev.int) Ev.name)) ?_
  have el : ((a.length : Int) - 1 - ((b.length : Int) - 1) + 1 - (manyL a b : Int)) = 0 := by unfold manyL; omega
  rw [el]
  obtain ⟨h1, h2, h3, ka, kb, h4, h5, h6⟩ := h
  have hkb : kb + 1 ≤ (kb + 1) * (manyL a b + 1) := Nat.le_mul_of_pos_right _ (by omega)
  have sl : Sm (leadL b) := Sm.ofPow (Nat.le_trans (leadL_natAbs b) h5) (by omega)
  have hr : SmL (pseudoL a b).2 := by
    -- the rest is bounded as pseudo's own walk has it
    have hmul : (kb + 1) * (manyL a b + 1) = (kb + 1) * manyL a b + (kb + 1) := by rw [Nat.mul_add, Nat.mul_one]
    have key : ∀ (n : Nat) (rest found : List Int) (left k : Nat), rest.length ≤ n → rest.length + 1 ≤ b.length + left → Nb k rest → ∃ k', Nb k' (psG b rest found left).1 ∧ k' + (kb + 1) * (psG b rest found left).2.2 ≤ k + (kb + 1) * left := by
      intro n
      induction n with
      | zero =>
        intro rest found left k hn hl hk
        rw [psG_stop (by omega)]
        exact ⟨k, hk, Nat.le_refl _⟩
      | succ n ih =>
        intro rest found left k hn hl hk
        by_cases hle : b.length ≤ rest.length
        · rw [psG_step h3 hle]
          have hlt := psRest_lt h3 hle
          obtain ⟨k', q1, q2⟩ := ih (psRest b rest) (psFound b rest found) (left - 1) (k + kb + 1) (by omega) (by omega) (Nb.psRest hk h5)
          refine ⟨k', q1, ?_⟩
          have : (kb + 1) * left = (kb + 1) * (left - 1) + (kb + 1) := by
            conv => lhs; rw [show left = (left - 1) + 1 by omega, Nat.mul_add, Nat.mul_one]
          omega
        · rw [psG_stop hle]
          exact ⟨k, hk, Nat.le_refl _⟩
    obtain ⟨k', q1, q2⟩ := key a.length a [] (manyL a b) ka (Nat.le_refl _) (by unfold manyL; omega) h4
    have hpow : (leadL b ^ (psG b a [] (manyL a b)).2.2).natAbs ≤ 2 ^ (kb * (psG b a [] (manyL a b)).2.2) := by
      rw [Int.natAbs_pow, Nat.pow_mul]
      exact Nat.pow_le_pow_left (Nat.le_trans (leadL_natAbs b) h5) _
    have hkl : kb * (psG b a [] (manyL a b)).2.2 ≤ (kb + 1) * (psG b a [] (manyL a b)).2.2 := Nat.mul_le_mul_right _ (by omega)
    exact SmL.ofNb (Nb.scale q1 hpow) (by omega)
  refine Ex.ret (Ev.compB (fun n => n * leadL b ^ (0 : Int).toNat) _ [("b", .b (.zs b)), ("lacking", .b (.int 0))] (Src.list Ev.name) rfl (by have := pseudoL_length (a := a) h3; omega) (fun Cn s n hn => ?_) (by walk_at "sub") ?_) ?_
  · exact Ev.mul Ev.name (Ev.pow (Ev.call gf_zlead if_zlead (Evs.cons Ev.name .nil) (c_zlead (by omega)) (hk := Nat.le_of_ble_eq_true rfl)) Ev.name sl (by decide) (by decide)) (hr n hn) (by simpa using Sm.small (n := 1) (by decide))
  · exact fun y hy => by simpa [callEnvC, newEnv, cellsFrom] using hy
  · show AV.b _ = AV.b _
    congr 2
    simp
end Mine
end

section
set_option maxRecDepth 100000
namespace Mine
open PySem PySem.W PySem.Calls PyProof.Rows

/-- the last value of the row -/
noncomputable def rowEnd (a b : List Int) (sign h : Int) : Int := if b = [] then 0 else sign * (if 1 < a.length then (b.getD 0 0 ^ (a.length - 1)).fdiv (h ^ (a.length - 2)) else 1)
/-- the row's run, every size and divisor in order -/
inductive RowRun : List Int → List Int → Int → Int → Int → Int → Prop where
  | stop {a b : List Int} {sign g h : Int} : b.length ≤ 1 → a.length ≤ 100 → (b ≠ [] → 1 < a.length → Sm (b.getD 0 0) ∧ Sm h ∧ h ^ (a.length - 2) ≠ 0 ∧ Sm (h ^ (a.length - 2)) ∧ Sm sign ∧ Sm ((b.getD 0 0 ^ (a.length - 1)).fdiv (h ^ (a.length - 2)))) → (b ≠ [] → Sm sign) → RowRun a b sign g h (rowEnd a b sign h)
  | step {a b : List Int} {sign g h r : Int} : 1 < b.length → b.length ≤ a.length → PsOk a b → Sm g → Sm h → g * h ^ (a.length - b.length) ≠ 0 → Sm (h ^ (a.length - b.length)) → Sm (g * h ^ (a.length - b.length)) →
      (0 < a.length - b.length → h ^ (a.length - b.length - 1) ≠ 0 ∧ Sm (h ^ (a.length - b.length - 1))) → Sm (leadL b) →
      RowRun b (divL (pseudoL a b).2 (g * h ^ (a.length - b.length))) (if a.length % 2 = 0 ∧ b.length % 2 = 0 then -sign else sign) (leadL b) (if 0 < a.length - b.length then (leadL b ^ (a.length - b.length)).fdiv (h ^ (a.length - b.length - 1)) else h) r →
      RowRun a b sign g h r

theorem odd_deg {n : Nat} (h : 0 < n) : (((n : Int) - 1).fmod 2 == 1) = decide (n % 2 = 0) := by
  rw [Int.fmod_eq_emod_of_nonneg _ (by decide)]
  rw [Bool.eq_iff_iff]
  simp only [beq_iff_eq, decide_eq_true_eq]
  omega

theorem c_row_resultant {a b : List Int} {sign r : Int} (hrun0 : RowRun a b sign 1 1 r) : Fn 6 193 [.b (.zs a), .b (.zs b), .b (.int sign)] (.b (.int r)) := by
  refine Fn.enter ["a", "b", "sign"] (fun w => by walk_at "ent") (fun w => by walk_at "entc") (bind3 fun v u t => by rfl) (by rfl) (by decide) rfl ?_
  intro w A L s₀ ok
  refine Ex.step (Ex1.assignT (xs := ["g", "h"]) (Ev.tup (as := [.int 1, .int 1]) (Evs.cons Ev.int (Evs.cons Ev.int .nil))) isNames2 (by walk_at "kd2") rfl) ?_
  refine Ex.cons (K₁ := fun o => ∃ (a b : List Int) (sign g h : Int), o = .next [("a", .b (.zs a)), ("b", .b (.zs b)), ("sign", .b (.int sign)), ("g", .b (.int g)), ("h", .b (.int h))] ∧ RowRun a b sign g h r ∧ b.length ≤ 1) ?_ (fun ρ' hh => ?_) (fun a h => by obtain ⟨_, _, _, _, _, h, _⟩ := h; cases h)
  · refine Ex1.while (σ := List Int × List Int × Int × Int × Int) (fun x => [("a", .b (.zs x.1)), ("b", .b (.zs x.2.1)), ("sign", .b (.int x.2.2.1)), ("g", .b (.int x.2.2.2.1)), ("h", .b (.int x.2.2.2.2))])
      (fun x => RowRun x.1 x.2.1 x.2.2.1 x.2.2.2.1 x.2.2.2.2 r) (fun x => x.2.1.length) (fun x => decide ((0 : Int) < (x.2.1.length : Int) - 1)) (fun x hP => ?_) (fun x hP hb0 => ?_) (fun x hP hb0 => ?_) (a, b, sign, 1, 1) hrun0 (by walk_at "sub")
    · refine Tr.cmp (Ev.call gf_zdegree if_zdegree (Evs.cons Ev.name .nil) (c_zdegree ?_)) Ev.int Cmp.gt
      cases hP with
      | stop h1 _ _ _ => omega
      | step _ _ h3 => have := h3.2.1; omega
    · obtain ⟨a, b, sign, g, h⟩ := x
      simp only at hP hb0 ⊢
      have hb1 : 1 < b.length := by have : (0 : Int) < (b.length : Int) - 1 := by simpa using hb0
                                    omega
      cases hP with
      | stop h1 _ _ _ => omega
      | step h1 h2 h3 sg sh d0 s1 s2 h4 sl hrun =>
      have la := h3.1
      have lb := h3.2.1
      have b0 := h3.2.2.1
      have eg : ((a.length : Int) - 1 - ((b.length : Int) - 1)) = ((a.length - b.length : Nat) : Int) := by omega
      refine Ex.step (Ex1.assign (Ev.sub (Ev.call gf_zdegree if_zdegree (Evs.cons Ev.name .nil) (c_zdegree (by omega))) (Ev.call gf_zdegree if_zdegree (Evs.cons Ev.name .nil) (c_zdegree (by omega))))) ?_
      rw [eg]
      generalize hgap : a.length - b.length = gap at *
      refine Ex.cons (K₁ := fun o => ∃ ρ', o = .next ρ' ∧ Sub [("a", .b (.zs a)), ("b", .b (.zs b)), ("sign", .b (.int (if a.length % 2 = 0 ∧ b.length % 2 = 0 then -sign else sign))), ("g", .b (.int g)), ("h", .b (.int h)), ("gap", .b (.int gap))] ρ')
        (Ex1.ite (Tr.and (Tr.cmp (Ev.fmod (Ev.call gf_zdegree if_zdegree (Evs.cons Ev.name .nil) (c_zdegree (by omega))) Ev.int (by decide)) Ev.int Cmp.eq) fun _ => Tr.cmp (Ev.fmod (Ev.call gf_zdegree if_zdegree (Evs.cons Ev.name .nil) (c_zdegree (by omega))) Ev.int (by decide)) Ev.int Cmp.eq) (fun hc => ?_) (fun hc => ?_)) (fun ρ' hρ => ?_) (fun a h => by obtain ⟨_, h, _⟩ := h; cases h)
      · rw [odd_deg (by omega), odd_deg (by omega)] at hc
        have hc' : a.length % 2 = 0 ∧ b.length % 2 = 0 := by simpa using hc
        rw [if_pos hc']
        exact Ex.step (Ex1.assign (Ev.neg Ev.name)) (Ex.nil ⟨_, rfl, by walk_at "sub"⟩)
      · rw [odd_deg (by omega), odd_deg (by omega)] at hc
        have hc' : ¬ (a.length % 2 = 0 ∧ b.length % 2 = 0) := by
          intro q; simp [q.1, q.2] at hc
        rw [if_neg hc']
        exact Ex.nil ⟨_, rfl, by walk_at "sub"⟩
      · obtain ⟨ρ'', e, hs⟩ := hρ
        cases e
        refine Ex.sub ?_ hs
        have hm := pseudoL_length (a := a) b0
        refine Ex.step (Ex1.assign (Ev.call gf_full_rest if_full_rest (Evs.cons Ev.name (Evs.cons Ev.name .nil)) (c_full_rest h3 (by omega)))) ?_
        have hgap100 : gap ≤ 100 := by omega
        refine Ex.step (Ex1.assignTs (xs := ["a", "b"]) (Ev.tup (as := [.zs b, .zs (divL (pseudoL a b).2 (g * h ^ gap))]) (Evs.cons Ev.name (Evs.cons (Ev.call gf_divided if_divided (Evs.cons Ev.name (Evs.cons ?_ .nil)) (c_divided (k := g * h ^ gap) (by omega) d0 s2)) .nil))) (by walk_at "kd2") rfl) ?_
        · have hp : h ^ gap = h ^ ((gap : Int)).toNat := by rw [Int.toNat_natCast]
          rw [hp] at s1 ⊢
          exact Ev.mul Ev.name (Ev.pow Ev.name Ev.name sh (by omega) (by omega)) sg s1
        refine Ex.step (Ex1.assign (Ev.call gf_zlead if_zlead (Evs.cons Ev.name .nil) (c_zlead (by omega)))) ?_
        refine Ex.cons (K₁ := fun o => ∃ ρ', o = .next ρ' ∧ Sub [("a", .b (.zs b)), ("b", .b (.zs (divL (pseudoL a b).2 (g * h ^ gap)))), ("sign", .b (.int (if a.length % 2 = 0 ∧ b.length % 2 = 0 then -sign else sign))), ("g", .b (.int (leadL b))), ("h", .b (.int (if 0 < gap then (leadL b ^ gap).fdiv (h ^ (gap - 1)) else h)))] ρ')
          (Ex1.ite (Tr.cmp Ev.name Ev.int Cmp.gt) (fun hc => ?_) (fun hc => ?_)) (fun ρ' hρ => ?_) (fun a h => by obtain ⟨_, h, _⟩ := h; cases h)
        · have hc' : 0 < gap := by simpa using hc
          have e1 : ((gap : Int) - 1).toNat = gap - 1 := by omega
          refine Ex.step (Ex1.assign (Ev.fdiv (Ev.pow Ev.name Ev.name sl (by omega) (by omega)) (Ev.pow Ev.name (Ev.sub Ev.name Ev.int) sh (by omega) (by omega)) (by rw [e1]; exact (h4 hc').1) (by rw [e1]; exact (h4 hc').2))) (Ex.nil ⟨_, rfl, ?_⟩)
          rw [if_pos hc', e1, Int.toNat_natCast]
          walk_at "sub"
        · have hc' : ¬ 0 < gap := by simpa using hc
          rw [if_neg hc']
          exact Ex.nil ⟨_, rfl, by walk_at "sub"⟩
        · obtain ⟨ρ3, e, hs3⟩ := hρ
          cases e
          refine Ex.nil ⟨(b, divL (pseudoL a b).2 (g * h ^ gap), (if a.length % 2 = 0 ∧ b.length % 2 = 0 then -sign else sign), leadL b, (if 0 < gap then (leadL b ^ gap).fdiv (h ^ (gap - 1)) else h)), hs3, hrun, ?_⟩
          show (divL _ _).length < b.length
          rw [divL_length]; exact hm
    · obtain ⟨a, b, sign, g, h⟩ := x
      have hb1 : b.length ≤ 1 := by have : ¬ (0 : Int) < (b.length : Int) - 1 := by simpa using hb0
                                    omega
      exact ⟨a, b, sign, g, h, rfl, hP, hb1⟩
  · obtain ⟨a, b, sign, g, h, e, hrun, hb1⟩ := hh
    cases e
    cases hrun with
    | step h1 => omega
    | stop h1 la h2 h3 =>
    refine Ex.ifelse (Tr.cmp Ev.name (Ev.listI (xs := []) .nil) Cmp.eqL) (fun hc => Ex.ret Ev.int ?_) (fun hc => Ex.nil ?_)
    · have hb : b = [] := by simpa using hc
      show AV.b _ = AV.b _
      unfold rowEnd
      rw [if_pos hb]
    · have hb : b ≠ [] := by simpa using hc
      have hbl : 0 < b.length := List.length_pos_iff.mpr hb
      refine Ex.step (Ex1.assign (Ev.call gf_zdegree if_zdegree (Evs.cons Ev.name .nil) (c_zdegree (by omega)))) ?_
      by_cases ha : 1 < a.length
      · obtain ⟨q1, q2, q3, q4, q5, q6⟩ := h2 hb ha
        have e1 : ((a.length : Int) - 1).toNat = a.length - 1 := by omega
        have e2 : ((a.length : Int) - 1 - 1).toNat = a.length - 2 := by omega
        have hdec : decide ((0 : Int) < (a.length : Int) - 1) = true := by simp; omega
        refine Ex.ret (Ev.mul Ev.name (Ev.ifi (b := true) (m := (b.getD 0 0 ^ (a.length - 1)).fdiv (h ^ (a.length - 2))) (n := 1) (hdec ▸ Tr.cmp Ev.name Ev.int Cmp.gt) (fun _ => ?_) fun hh => by cases hh) q5 (by simpa using q6)) ?_
        · have e1' : b.getD 0 0 ^ (a.length - 1) = b.getD 0 0 ^ ((a.length : Int) - 1).toNat := by rw [e1]
          have e2' : h ^ (a.length - 2) = h ^ ((a.length : Int) - 1 - 1).toNat := by rw [e2]
          rw [e1', e2']
          rw [e2'] at q3 q4
          exact Ev.fdiv (Ev.pow (Ev.idx Ev.name Ev.int (k := 0) (n := b.getD 0 0) (by decide) (by decide) (by cases b with | nil => exact absurd rfl hb | cons x r => rfl)) Ev.name q1 (by omega) (by omega)) (Ev.pow Ev.name (Ev.sub Ev.name Ev.int) q2 (by omega) (by omega)) q3 q4
        · show AV.b _ = AV.b _
          unfold rowEnd
          rw [if_neg hb, if_pos ha]; rfl
      · have hdec : decide ((0 : Int) < (a.length : Int) - 1) = false := by simp; omega
        refine Ex.ret (Ev.mul Ev.name (Ev.ifi (b := false) (m := 0) (n := 1) (hdec ▸ Tr.cmp Ev.name Ev.int Cmp.gt) (fun hh => by cases hh) fun _ => Ev.int) (h3 hb) (show Sm 1 from Nat.one_lt_two_pow (by decide))) ?_
        show AV.b _ = AV.b _
        unfold rowEnd
        rw [if_neg hb, if_neg ha]; rfl
end Mine
end

section
set_option maxRecDepth 100000
namespace Mine
open PySem PySem.W PySem.Calls PyProof.Rows


/-- the resultant of two contents and a row's value -/
noncomputable def sharedR (a b : List Int) : Int := (gcdL a : Int) ^ (b.length - 1) * (gcdL b : Int) ^ (a.length - 1)
theorem c_resultant {a b : List Int} {V : Int} (ha : a ≠ []) (hb : b ≠ []) (hab : b.length ≤ a.length) (la : a.length ≤ 1000) (ga : (gcdL a : Int) ≠ 0) (gb : (gcdL b : Int) ≠ 0) (sa : Sm (gcdL a)) (sb : Sm (gcdL b))
    (s1 : Sm ((gcdL a : Int) ^ (b.length - 1))) (s2 : Sm ((gcdL b : Int) ^ (a.length - 1))) (s3 : Sm (sharedR a b)) (sV : Sm V)
    (hr : RowRun (divL a (gcdL a)) (divL b (gcdL b)) 1 1 1 V) : Fn 7 200 [.b (.zs a), .b (.zs b)] (.b (.int (sharedR a b * V))) := by
  refine Fn.enter ["a", "b"] (fun w => by walk_at "ent") (fun w => by walk_at "entc") (bind2 fun v u => by rfl) (by rfl) (by decide) rfl ?_
  intro w A L s₀ ok
  have hla : 0 < a.length := List.length_pos_iff.mpr ha
  have hlb : 0 < b.length := List.length_pos_iff.mpr hb
  refine Ex.ifelse (Tr.or (Tr.cmp Ev.name (Ev.listI (xs := []) .nil) Cmp.eqL) (fun _ => Tr.cmp Ev.name (Ev.listI (xs := []) .nil) Cmp.eqL)) (fun hc => ?_) (fun _ => Ex.nil ?_)
  · exfalso; simp [ha, hb] at hc
  refine Ex.step (Ex1.assign Ev.int) ?_
  refine Ex.ifelse (Tr.cmp (Ev.call gf_zdegree if_zdegree (Evs.cons Ev.name .nil) (c_zdegree (by omega))) (Ev.call gf_zdegree if_zdegree (Evs.cons Ev.name .nil) (c_zdegree (by omega))) Cmp.lt) (fun hc => ?_) (fun _ => Ex.nil ?_)
  · exfalso
    have : (a.length : Int) - 1 < (b.length : Int) - 1 := by simpa using hc
    omega
  refine Ex.step (Ex1.assignTs (xs := ["one", "other"]) (Ev.tup (as := [.int (gcdL a), .int (gcdL b)]) (Evs.cons (Ev.call gf_zcontent if_zcontent (Evs.cons Ev.name .nil) c_zcontent) (Evs.cons (Ev.call gf_zcontent if_zcontent (Evs.cons Ev.name .nil) c_zcontent) .nil))) (by walk_at "kd2") rfl) ?_
  have e1 : ((b.length : Int) - 1).toNat = b.length - 1 := by omega
  have e2 : ((a.length : Int) - 1).toNat = a.length - 1 := by omega
  refine Ex.step (Ex1.assign (Ev.mul (Ev.pow Ev.name (Ev.call gf_zdegree if_zdegree (Evs.cons Ev.name .nil) (c_zdegree (by omega))) sa (by omega) (by omega)) (Ev.pow Ev.name (Ev.call gf_zdegree if_zdegree (Evs.cons Ev.name .nil) (c_zdegree (by omega))) sb (by omega) (by omega)) (by rw [e1]; exact s1) (by rw [e2]; exact s2))) ?_
  rw [e1, e2]
  exact Ex.ret (Ev.mul Ev.name (Ev.call gf_row_resultant if_row_resultant (Evs.cons (Ev.call gf_divided if_divided (Evs.cons Ev.name (Evs.cons Ev.name .nil)) (c_divided (by omega) ga sa)) (Evs.cons (Ev.call gf_divided if_divided (Evs.cons Ev.name (Evs.cons Ev.name .nil)) (c_divided (by omega) gb sb)) (Evs.cons Ev.name .nil))) (c_row_resultant hr)) s3 sV) rfl

/-- the discriminant, of the row's value -/
noncomputable def discL (f : List Int) (V : Int) : Int :=
  if (((f.length : Int) - 1) * ((f.length : Int) - 1 - 1)).fdiv 2 % 2 = 1 then -((sharedR f (deriveL f) * V).fdiv (leadL f)) else (sharedR f (deriveL f) * V).fdiv (leadL f)
theorem c_discriminant {f : List Int} {V : Int} (h2 : 2 ≤ f.length) (lf : f.length ≤ 100) (sf : SmL f) (hl : leadL f ≠ 0) (sl : Sm (leadL f))
    (hR : Fn 7 200 [.b (.zs f), .b (.zs (deriveL f))] (.b (.int (sharedR f (deriveL f) * V)))) : Fn 8 207 [.b (.zs f)] (.b (.int (discL f V))) := by
  refine Fn.enter ["f"] (fun w => by walk_at "ent") (fun w => by walk_at "entc") (bind1 fun v => by rfl) (by rfl) (by decide) rfl ?_
  intro w A L s₀ ok
  refine Ex.step (Ex1.assign (Ev.call gf_zdegree if_zdegree (Evs.cons Ev.name .nil) (c_zdegree (by omega)))) ?_
  refine Ex.ifelse (Tr.cmp Ev.name Ev.int Cmp.lt) (fun hc => ?_) (fun _ => Ex.nil ?_)
  · exfalso
    have : (f.length : Int) - 1 < 1 := by simpa using hc
    omega
  refine Ex.step (Ex1.assign (Ev.fdiv (Ev.call gf_resultant if_resultant (Evs.cons Ev.name (Evs.cons (Ev.call gf_zderive if_zderive (Evs.cons Ev.name .nil) (c_zderive (by omega) sf)) .nil)) hR) (Ev.call gf_zlead if_zlead (Evs.cons Ev.name .nil) (c_zlead (by omega))) hl sl)) ?_
  have sm1 : Sm ((f.length : Int) - 1) := by
    unfold Sm
    exact Nat.lt_of_lt_of_le (show _ < 2 ^ 10 by omega) (Nat.pow_le_pow_right (by decide) (by decide))
  have sm2 : Sm ((f.length : Int) - 1 - 1) := by
    unfold Sm
    exact Nat.lt_of_lt_of_le (show _ < 2 ^ 10 by omega) (Nat.pow_le_pow_right (by decide) (by decide))
  refine Ex.ret (Ev.ifi (Tr.cmp (Ev.fmod (Ev.fdiv (Ev.mul Ev.name (Ev.sub Ev.name Ev.int) sm1 sm2) Ev.int (by decide) (show Sm 2 from Nat.lt_of_lt_of_le (show 2 < 2 ^ 2 by decide) (Nat.pow_le_pow_right (by decide) (by decide)))) Ev.int (by decide)) Ev.int Cmp.eq) (fun _ => Ev.neg Ev.name) fun _ => Ev.name) ?_
  show AV.b (.int _) = AV.b (.int _)
  unfold discL
  rw [Int.fmod_eq_emod_of_nonneg _ (by decide)]
  by_cases hq : (((f.length : Int) - 1) * ((f.length : Int) - 1 - 1)).fdiv 2 % 2 = 1
  · rw [if_pos hq, if_pos (by simpa using hq)]
  · rw [if_neg hq, if_neg (by simpa using hq)]
end Mine
end

section
set_option maxRecDepth 100000
namespace Mine
open PySem PySem.W PySem.Calls PyProof.Rows


section
variable {C : Act} {ρ : Loc}
/-- a display of rows: the list is new -/
theorem rows_new {es : List Expr} {p : Pos} {xs : List (List Int)} {s : Shared} {Q : Value → Shared → Prop} (h : Evs C ρ es (xs.map fun n => .b (.zs n))) (hs : Sat C ρ s) (hQ : ∀ s1 D vs, Kp s s1 → s.heap.get? D = none → s1.heap.PlainList D vs.toArray → All2 (RL s1.heap) vs xs → Q (.ref D) s1) (hz : es.length ≤ 1000 := by decide) (hx : xs.length = es.length := by rfl) :
    wpAny (model pg C.w) C.A (eval (.List es p) C.env) Q nE s := by
  refine wpAny_List (h.2 p s _ hs fun vs s1 k1 r1 => ⟨?_, ?_⟩)
  · have := r1.length; rw [List.length_map] at this; exact sizeL (by omega)
  · have k2 : Kp s1 { s1 with heap := s1.heap.push { cls := .type "list", data := .seq vs.toArray } } := Kp.push _ _
    refine hQ _ _ vs (k1.trans k2) ?_ ⟨_, Heap.get?_push_size _ rfl⟩ ((all2_rows r1).mono fun _ _ r => r.ks k2.ks)
    cases e : s.heap.get? s1.heap.objs.size with
    | none => rfl
    | some o => have := Heap.lt_size (k1.get _ _ e); exact absurd this (Nat.lt_irrefl _)
theorem assignTs_raw {elts : List Expr} {k : Nat} {tp q : Pos} {e : Expr} {xs : List Str} {s : Shared} {Q : Flow → Shared → Prop}
    (h : wpAny (model pg C.w) C.A (eval e C.env) (fun v s1 => ∃ as : List A0, xs.length = as.length ∧ Sat C ρ s1 ∧ Rep s1.heap v (.tup as) ∧ ∀ s2, Kf C s1 s2 → Sat C (zipR xs.reverse (as.map .b).reverse ρ) s2 → Q .next s2) nE s) (hk : ∀ x ∈ xs, Kd C x)
    (hs : swapsWithSole [.Tuple elts k tp] e q.line C.env = pure false := by rfl) (hw : swappedStores [.Tuple elts k tp] e C.env = pure (some xs) := by rfl) :
    wpAny (model pg C.w) C.A (exec (.Assign [.Tuple elts k tp] e q) C.env) Q nE s := by
  refine Assign_Tuple_swapped (wpAny_mono h (fun v s1 hh => ?_) fun _ _ e => e) hs hw
  obtain ⟨as, hl, hS, ⟨a, vs, rfl, ht, i⟩, fin⟩ := hh
  have hlen : xs.length = vs.toArray.size := by rw [List.size_toArray, i.length, hl]
  rw [hlen]
  refine unpackItems_tuple hS.ok.handled ht fun h' he => ?_
  have k2 := kp_ext he
  have ht : All2 (fun t x => ∀ v s (Q : Unit → Shared → Prop), wpAny (model pg C.w) C.A (storeName C.env x v) Q nE s → wpAny (model pg C.w) C.A (t v) Q nE s) (xs.reverse.map fun n => bindName C.env n) xs.reverse := by
    generalize xs.reverse = ys
    induction ys with
    | nil => exact .nil
    | cons y ys ih => exact .cons target_bind ih
  exact stores_ (hS.keeps k2) (all2_rev ((all2_up i).mono fun _ _ r => r.ks k2.ks)) ht (fun x hx => hk x (List.mem_reverse.mp hx)) (by simpa using hl) fun s3 hs3 k3 => fin s3 (k2.kf.trans k3) hs3
/-- a tuple of a display of rows and two ints -/
theorem tup3_rows {es : List Expr} {e1 e2 : Expr} {k : Nat} {p q : Pos} {xs : List (List Int)} {m n : Int} {s : Shared} {Q : Value → Shared → Prop} (h : Evs C ρ es (xs.map fun n => .b (.zs n))) (h1 : Ev C ρ e1 (.b (.int m))) (h2 : Ev C ρ e2 (.b (.int n))) (hs : Sat C ρ s)
    (hQ : ∀ v s1 D vs, Kp s s1 → s.heap.get? D = none → s1.heap.PlainList D vs.toArray → All2 (RL s1.heap) vs xs → Rep s1.heap v (.tup [.ref D, .int m, .int n]) → Q v s1) (hz : es.length ≤ 1000 := by decide) (hx : xs.length = es.length := by rfl)
    (he : starEach [.List es q, e1, e2] C.env = (false, eval (.List es q) C.env) :: starEach [e1, e2] C.env := by rfl) (he1 : starEach [e1, e2] C.env = (false, eval e1 C.env) :: starEach [e2] C.env := by rfl) (he2 : starEach [e2] C.env = (false, eval e2 C.env) :: starEach [] C.env := by rfl) :
    wpAny (model pg C.w) C.A (eval (.Tuple [.List es q, e1, e2] k p) C.env) Q nE s := by
  have ht : Evs C ρ [e1, e2] [.b (.int m), .b (.int n)] := Evs.cons h1 (Evs.cons h2 .nil he2) he1
  refine wpAny_Tuple (wpAny_items_cons (rows_new h hs (fun s1 D vs k1 hD pl r => ht.2 p s1 _ (hs.keeps k1) fun us s2 k2 r2 => ⟨?_, ?_⟩) hz hx) he)
  · have := r2.length; exact sizeL (by simp only [List.length_cons, List.length_nil] at this ⊢; omega)
  · have k3 : Kp s2 { s2 with heap := s2.heap.push { cls := .type "tuple", data := .seq (Value.ref D :: us).toArray } } := Kp.push _ _
    refine hQ _ _ D vs (k1.trans (k2.trans k3)) hD (plain_ks (k2.trans k3).ks pl) (r.mono fun _ _ r => r.ks (k2.trans k3).ks) ⟨_, Value.ref D :: us, rfl, ⟨_, Heap.get?_push_size _ rfl, rfl, _, rfl⟩, ?_⟩
    refine .cons rfl ((all2_base (xs := [.int m, .int n]) r2).mono fun _ _ r => r.ks k3.ks)

/-- a list of rows, by its place -/
noncomputable def RowAt (h : Heap) (D : Addr) (xss : List (List Int)) : Prop := ∃ vs : List Value, h.PlainList D vs.toArray ∧ All2 (RL h) vs xss
theorem RowAt.ks {h h' : Heap} {D : Addr} {xss : List (List Int)} (k : KS h h') (x : RowAt h D xss) : RowAt h' D xss := let ⟨vs, p, r⟩ := x; ⟨vs, plain_ks k p, r.mono fun _ _ r => r.ks k⟩
theorem RowAt.apart {h : Heap} {D a : Addr} {xss : List (List Int)} {us : List Value} {xs : List Int} (x : RowAt h D xss) (hne : xss ≠ []) (p : h.PlainList a us.toArray) (i : IntsAre us xs) : a ≠ D := by
  rintro rfl
  obtain ⟨vs, ⟨n, e⟩, r⟩ := x
  obtain ⟨m, e'⟩ := p
  have := e.symm.trans e'
  simp only [Option.some.injEq, Obj.mk.injEq, Data.seq.injEq] at this
  have hv : vs = us := by simpa using this.2.2.1.1
  subst hv
  cases r with
  | nil => exact hne rfl
  | cons h1 t =>
    obtain ⟨b, ws, e1, _⟩ := h1
    subst e1
    cases i
noncomputable def flat1 : AV → Bool
  | .b (.zss _) => false
  | .b (.pool _ _) => false
  | .tup _ => false
  | _ => true
theorem flat1_rep {h h' : Heap} {D : Addr} {xss : List (List Int)} {v : Value} {a : AV} (x : RowAt h D xss) (hne : xss ≠ []) (hk : ∀ b o, b ≠ D → h.get? b = some o → h'.get? b = some o) (hf : flat1 a = true) (r : Rep h v a) : Rep h' v a := by
  cases a with
  | tup l => cases hf
  | b a =>
    cases a with
    | int n => exact r
    | bool b => exact r
    | none => exact r
    | ref a => exact r
    | zss xss => cases hf
    | pool xs k => cases hf
    | zs xs =>
      obtain ⟨a, us, rfl, p, i⟩ := r
      have hne' := x.apart hne p i
      obtain ⟨n, e⟩ := p
      exact ⟨a, us, rfl, ⟨n, hk _ _ hne' e⟩, i⟩
noncomputable def Flat1 (ρ : Loc) : Prop := (ρ.all fun q => flat1 q.2) = true
theorem Sat.bumpR {D : Addr} {xss : List (List Int)} {s : Shared} {h' : Heap} {tk : Nat} (hs : Sat C ρ s) (hf : Flat1 ρ) (x : RowAt s.heap D xss) (hne : xss ≠ []) (hk : ∀ b o, b ≠ D → s.heap.get? b = some o → h'.get? b = some o)
    (hw : C.s₀.heap.get? D = none) : Sat C ρ { s with heap := h', toks := tk } := by
  obtain ⟨h, tk', e⟩ := id hs.same
  obtain ⟨m, cm, hn, hc, hr⟩ := id hs.ex
  obtain ⟨vs, ⟨n, eD⟩, r⟩ := id x
  have off := hs.off eD
  refine ⟨hs.ok, ⟨h', tk, by rw [e]⟩, fun b o x => hk b o (fun q => ?_) (hs.keep b o x), m, cm, hn.at' fun o x => hk _ o (fun q => off.1 q.symm) x, fun y hy => ?_, fun y a z => ?_⟩
  · rw [q, hw] at x; cases x
  · obtain ⟨oc, ho, hd⟩ := hc y hy
    exact ⟨oc, hk _ _ (fun q => off.2 y hy q) ho, hd⟩
  · obtain ⟨v, e1, r⟩ := hr y a z
    exact ⟨v, e1, flat1_rep x hne hk (List.all_eq_true.mp hf _ (mem_of_lookup z)) r⟩
theorem append_row {o elt : Expr} {apos pos p : Pos} {D : Addr} {xss : List (List Int)} {y : List Int} {s : Shared} {Q : Flow → Shared → Prop} (hf : Flat1 ρ) (ho : Ev C ρ o (.b (.ref D))) (he : Ev C ρ elt (.b (.zs y)))
    (hs : Sat C ρ s) (x : RowAt s.heap D xss) (hne : xss ≠ []) (hz : xss.length ≤ 1000) (hw : C.s₀.heap.get? D = none)
    (hQ : ∀ s', Sat C ρ s' → KX C [D] s s' → RowAt s'.heap D (xss ++ [y]) → Q .next s')
    (hbase : attributeBase o "append" C.env (eval o C.env) = eval o C.env := by rfl)
    (hfew : ((backTo pos (starEach [elt] C.env)).all (fun x => !x.1) && (backToKw pos (keywordEach [] C.env)).all (fun x => x.1.isSome)
      && decide (([elt] : List Expr).length + ([] : List Keyword).length + (if ([] : List Keyword).isEmpty then 0 else 1) < 30)) = true := by rfl)
    (hline : (apos.endLine == pos.line) = true := by rfl) (htrees : backTo pos (starEach [elt] C.env) = [(false, eval elt C.env)] := by rfl)
    (hi : interactive C.env = false := by rfl) (hsw : swapsWith (.Call (.Attribute o "append" apos) [elt] [] pos) none p.line C.env = pure false := by rfl) :
    wpAny (model pg C.w) C.A (exec (.Expr (.Call (.Attribute o "append" apos) [elt] [] pos) p) C.env) Q nE s := by
  refine wpAny_Expr (wpAny_Call_append hbase hfew hline htrees ?_) hi hsw
  refine ho s _ hs fun ov s1 k1 r1 => ?_
  have r1' : ov = .ref D := r1
  subst r1'
  obtain ⟨vs1, ⟨n1, e1⟩, r1⟩ := x.ks k1.ks
  refine ⟨D, vs1.toArray, rfl, ⟨_, n1, e1, rfl, rfl, rfl⟩, ?_⟩
  refine he s1 _ (hs.keeps k1) fun v s2 k2 r2 => ?_
  have x2 := (x.ks k1.ks).ks k2.ks
  obtain ⟨vs, pl, r⟩ := id x2
  have hlen := r.length
  refine wpAny_list_append_plain pl (fun h' pl' sb => ?_) (by rw [List.size_toArray]; exact sizeL (by omega))
  have e : vs.toArray.push v = (vs ++ [v]).toArray := by simp
  rw [e] at pl'
  have sat2 := (hs.keeps k1).keeps k2
  have hk' : ∀ b o, b ≠ D → s2.heap.get? b = some o → h'.get? b = some o := fun b o hb e => sb.extBut b o hb e
  refine hQ _ (sat2.bumpR hf x2 hne hk' hw) ?_ ⟨vs ++ [v], pl', ?_⟩
  · refine ((k1.trans k2).kx).trans ⟨⟨h', s2.toks, rfl⟩, fun b o n1 n2 n3 e => hk' b o (fun q => n3 (by rw [q]; exact List.mem_singleton.mpr rfl)) e⟩
  · have go : ∀ v x, RL s2.heap v x → RL h' v x := by
      rintro v x ⟨a, us, rfl, p, i⟩
      have hne' := x2.apart hne p i
      obtain ⟨n, e⟩ := p
      exact ⟨a, us, rfl, ⟨n, hk' _ _ hne' e⟩, i⟩
    exact (r.mono go).snoc (go _ _ r2)
end
end Mine
end

section
set_option maxRecDepth 100000
namespace Mine
open PySem PySem.W PySem.Calls PyProof.Rows


/-- the row of subresultants, every size and divisor in order -/
inductive SubRun : List Int → List Int → Int → Int → List (List Int) → Prop where
  | stop {a b : List Int} {f h : Int} : b.length ≤ 1 → SubRun a b f h []
  | last {a b : List Int} {f h : Int} : 1 < b.length → b.length ≤ a.length → PsOk a b → (pseudoL a b).2 = [] → SubRun a b f h []
  | step {a b : List Int} {f h : Int} {rows : List (List Int)} : 1 < b.length → b.length ≤ a.length → PsOk a b → (pseudoL a b).2 ≠ [] → Sm f → Sm h → f * h ^ (a.length - b.length) ≠ 0 → Sm (h ^ (a.length - b.length)) → Sm (f * h ^ (a.length - b.length)) →
      h ^ (a.length - b.length - 1) ≠ 0 → Sm (h ^ (a.length - b.length - 1)) → Sm (leadL b) → rows.length ≤ 100 →
      SubRun b (divL (pseudoL a b).2 (f * h ^ (a.length - b.length))) (leadL b) (nextH (leadL b) (a.length - b.length) h) rows → SubRun a b f h (divL (pseudoL a b).2 (f * h ^ (a.length - b.length)) :: rows)

section
variable {C : Act} {ρ : Loc}
theorem Ex1.stepR {st : Stmt} {rest : List Stmt} {ρ' : Loc} {s : Shared} {Q : Flow → Shared → Prop} (h : Ex1 C ρ st (fun o => o = .next ρ')) (hs : Sat C ρ s) (hQ : ∀ s', Kf C s s' → Sat C ρ' s' → wpAny (model pg C.w) C.A (execs rest C.env) Q nE s') :
    wpAny (model pg C.w) C.A (execs (st :: rest) C.env) Q nE s := by
  refine wpAny_execs_cons (h s _ hs fun o fl s' hK k ho => ?_)
  cases hK
  obtain ⟨rfl, hs'⟩ := ho
  exact hQ s' k hs'
theorem RowAt.kf {s s' : Shared} {D : Addr} {xss : List (List Int)} (hs : Sat C ρ s) (k : Kf C s s') (x : RowAt s.heap D xss) : RowAt s'.heap D xss := x.ks (hs.ks k)
theorem ret_row {e : Expr} {pos : Pos} {rest : List Stmt} {D : Addr} {xss : List (List Int)} {s s3 : Shared} {Q : Flow → Shared → Prop} {K : Out → Prop} (he : Ev C ρ e (.b (.ref D))) (hs : Sat C ρ s3) (kf : Kf C s s3) (x : RowAt s3.heap D xss) (hK : K (.ret (.b (.zss xss))))
    (hQ : ∀ o fl s', K o → Kf C s s' → OutSat C o fl s' → Q fl s') : wpAny (model pg C.w) C.A (execs (.Return (some e) pos :: rest) C.env) Q nE s3 :=
  wpAny_execs_cons (wpAny_Return_some (he s3 _ hs fun v s4 k4 r4 => by
    have r4' : v = .ref D := r4
    subst r4'
    obtain ⟨vs, pl, r⟩ := x.ks k4.ks
    exact hQ _ _ s4 hK (kf.trans k4.kf) ⟨_, rfl, ⟨ρ, hs.keeps k4⟩, D, vs, rfl, pl, r⟩))
theorem KX.back {D : Addr} {s s' s1 : Shared} (k1 : Kp s s1) (k : KX C [D] s1 s') (hD : s.heap.get? D = none) : Kf C s s' := (k1.kx.trans k).kf fun b hb => by cases List.mem_singleton.mp hb; exact hD
noncomputable def SubInv (C : Act) (p q : List Int) (rows : List (List Int)) (D : Addr) (s : Shared) (n : Nat) (s' : Shared) : Prop :=
  ∃ a b f h dn rest, n = b.length ∧ rows = dn ++ rest ∧ SubRun a b f h rest ∧ (a.length ≤ 100 ∧ b.length ≤ 100 ∧ dn.length + rest.length ≤ 200) ∧ Sat C [("a", .b (.zs a)), ("b", .b (.zs b)), ("row", .b (.ref D)), ("front", .b (.int f)), ("height", .b (.int h))] s' ∧ KX C [D] s s' ∧ RowAt s'.heap D (p :: q :: dn)
end

theorem c_subresultants {a b : List Int} {rows : List (List Int)} (ha : a.length ≤ 100) (hb : b.length ≤ 100) (hrl : rows.length ≤ 200) (hr : SubRun (if a.length < b.length then b else a) (if a.length < b.length then a else b) 1 1 rows) :
    Fn 6 221 [.b (.zs a), .b (.zs b)] (.b (.zss ((if a.length < b.length then b else a) :: (if a.length < b.length then a else b) :: rows))) := by
  refine Fn.enter ["a", "b"] (fun w => by walk_at "ent") (fun w => by walk_at "entc") (bind2 fun v u => by rfl) (by rfl) (by decide) rfl ?_
  intro w A L s₀ ok
  refine Ex.cons (K₁ := fun o => ∃ ρ', o = .next ρ' ∧ Sub [("a", .b (.zs (if a.length < b.length then b else a))), ("b", .b (.zs (if a.length < b.length then a else b)))] ρ')
    (Ex1.ite (Tr.cmp (Ev.callB gb_len (Evs.cons Ev.name .nil) (Bn.len (by omega))) (Ev.callB gb_len (Evs.cons Ev.name .nil) (Bn.len (by omega))) Cmp.lt) (fun hc => ?_) (fun hc => ?_)) (fun ρ' hρ => ?_) (fun a h => by obtain ⟨_, h, _⟩ := h; cases h)
  · have hc' : a.length < b.length := by simpa using hc
    rw [if_pos hc', if_pos hc']
    exact Ex.step (Ex1.assignTs (xs := ["a", "b"]) (Ev.tup (as := [.zs b, .zs a]) (Evs.cons Ev.name (Evs.cons Ev.name .nil))) (by walk_at "kd2") rfl) (Ex.nil ⟨_, rfl, by walk_at "sub"⟩)
  · have hc' : ¬ a.length < b.length := by simpa using hc
    rw [if_neg hc', if_neg hc']
    exact Ex.nil ⟨_, rfl, by walk_at "sub"⟩
  obtain ⟨ρ'', e, hs⟩ := hρ
  cases e
  refine Ex.sub ?_ hs
  have hla : (if a.length < b.length then b else a).length ≤ 100 := by split <;> assumption
  have hlb : (if a.length < b.length then a else b).length ≤ 100 := by split <;> assumption
  generalize (if a.length < b.length then b else a) = p at *
  generalize (if a.length < b.length then a else b) = q at *
  clear ha hb hs
  intro s Q hs hQ
  have hD0 : ∀ (D : Addr), s.heap.get? D = none → s₀.heap.get? D = none := fun D hD => by
    cases e : s₀.heap.get? D with
    | none => rfl
    | some o => have := hs.keep D o e; rw [hD] at this; cases this
  refine wpAny_execs_cons (assignTs_raw (xs := ["row", "front", "height"]) (tup3_rows (xs := [p, q]) (Evs.cons (Ev.callT gb_list (Evs.cons Ev.name .nil) (Bt.list (by omega))) (Evs.cons (Ev.callT gb_list (Evs.cons Ev.name .nil) (Bt.list (by omega))) .nil)) Ev.int Ev.int hs fun v s1 D vs k1 hD pl r rep => ⟨_, rfl, hs.keeps k1, rep, fun s2 k2 hs2 => ?_⟩) (by walk_at "kd3"))
  have kx2 := (k1.kx (C := _) (X := [D])).trans k2.kx
  have row2 : RowAt s2.heap D [p, q] := RowAt.kf (hs.keeps k1) k2 ⟨vs, pl, r⟩
  have hDs := hD0 D hD
  refine wpAny_execs_cons (wpAny_While (codeAny_whileLoop (fun n s' => SubInv _ p q rows D s2 n s') (fun n s3 hI => ?_) q.length ⟨p, q, 1, 1, [], rows, rfl, rfl, hr, ⟨hla, hlb, by simp only [List.length_nil]; omega⟩, hs2.weaken (by walk_at "sub"), KX.rfl', row2⟩))
  obtain ⟨a, b, f, h, dn, rest, rfl, hrows, hrun, ⟨la, lb, hdr⟩, sat3, kx3, row3⟩ := hI
  refine of_nE (Tr.run (Tr.cmp (Ev.callB gb_len (Evs.cons Ev.name .nil) (Bn.len (by omega))) Ev.int Cmp.gt) sat3 fun s4 k4 => ?_)
  have sat4 := sat3.keeps k4
  have row4 := row3.ks k4.ks
  have kx4 := kx3.trans k4.kx
  cases hb : decide ((b.length : Int) > 1) with
  | false =>
    simp only [Bool.false_eq_true, if_false]
    refine wpAny_execs_nil ?_
    have hrest : rest = [] := by
      cases hrun with
      | stop => rfl
      | last => rfl
      | step h1 => simp at hb; omega
    subst hrest
    rw [List.append_nil] at hrows
    subst hrows
    refine ret_row Ev.name sat4 ((kx2.trans kx4).kf fun b hb => by cases List.mem_singleton.mp hb; exact hD) row4 ?_ hQ
    rfl
  | true =>
    simp only [if_true]
    have hb1 : 1 < b.length := by have := of_decide_eq_true hb; omega
    refine of_nE ?_
    have hPs : PsOk a b ∧ b.length ≤ a.length := by
      cases hrun with
      | stop h1 => omega
      | last _ h2 h3 _ => exact ⟨h3, h2⟩
      | step _ h2 h3 => exact ⟨h3, h2⟩
    have eg : ((a.length : Int) - (b.length : Int)) = ((a.length - b.length : Nat) : Int) := by omega
    refine Ex1.stepR (Ex1.assign (Ev.sub (Ev.callB gb_len (Evs.cons Ev.name .nil) (Bn.len (by omega))) (Ev.callB gb_len (Evs.cons Ev.name .nil) (Bn.len (by omega))))) sat4 fun s5 kf5 sat5 => ?_
    rw [eg] at sat5
    refine Ex1.stepR (Ex1.assign (Ev.call gf_zpseudo_rest if_zpseudo_rest (Evs.cons Ev.name (Evs.cons Ev.name .nil)) (c_zpseudo_rest hPs.1))) sat5 fun s6 kf6 sat6 => ?_
    have row6 := RowAt.kf sat5 kf6 (RowAt.kf sat4 kf5 row4)
    have kx6 := (kx4.trans kf5.kx).trans kf6.kx
    have lrest : (pseudoL a b).2.length < b.length := pseudoL_length hPs.1.2.2.1
    refine wpAny_execs_cons (wpAny_If (Tr.run (Tr.cmp (Ev.callB gb_len (Evs.cons Ev.name .nil) (Bn.len (by omega))) Ev.int Cmp.eq) sat6 fun s7 k7 => ?_))
    have sat7 := sat6.keeps k7
    have row7 := row6.ks k7.ks
    have kx7 := kx6.trans k7.kx
    cases hb2 : (((pseudoL a b).2.length : Int) == 0) with
    | true =>
      simp only [if_true]
      have hnil : (pseudoL a b).2 = [] := by
        have : ((pseudoL a b).2.length : Int) = 0 := by simpa using hb2
        exact List.length_eq_zero_iff.mp (by omega)
      have hrest : rest = [] := by
        cases hrun with
        | stop => rfl
        | last => rfl
        | step h1 _ _ h4 => exact absurd hnil h4
      subst hrest
      rw [List.append_nil] at hrows
      subst hrows
      refine ret_row (K := fun o => o = .ret (.b (.zss (p :: q :: rows)))) Ev.name sat7 ((kx2.trans kx7).kf fun b hb => by cases List.mem_singleton.mp hb; exact hD) row7 rfl ?_
      · intro o fl s' ho kf hs'
        cases ho
        obtain ⟨v, rfl, h4, r⟩ := hs'
        exact hQ (.ret (.b (.zss (p :: q :: rows)))) _ s' rfl kf ⟨v, rfl, h4, r⟩
    | false =>
      simp only [Bool.false_eq_true, if_false]
      refine wpAny_execs_nil ?_
      have hne : (pseudoL a b).2 ≠ [] := fun q => by rw [q] at hb2; cases hb2
      cases hrun with
      | stop h1 => omega
      | last _ _ _ h4 => exact absurd h4 hne
      | @step _ _ _ _ rest' h1 h2 h3 h4 sf sh d0 s1' s2' d1 s3' sl hrl' hrun' =>
      generalize hgap : a.length - b.length = gap at *
      have hgap100 : gap ≤ 100 := by omega
      have ep : h ^ gap = h ^ ((gap : Int)).toNat := by rw [Int.toNat_natCast]
      refine Ex1.stepR (Ex1.assignTs (xs := ["a", "b"]) (Ev.tup (as := [.zs b, .zs (divL (pseudoL a b).2 (f * h ^ gap))]) (Evs.cons Ev.name (Evs.cons (Ev.call gf_zdivided if_zdivided (Evs.cons Ev.name (Evs.cons ?_ .nil)) (c_zdivided (k := f * h ^ gap) (by omega) d0 s2')) .nil))) (by walk_at "kd2") rfl) sat7 fun s8 kf8 sat8 => ?_
      · rw [ep] at s1' ⊢
        exact Ev.mul Ev.name (Ev.pow Ev.name Ev.name sh (by omega) (by omega)) sf s1'
      have row8 := RowAt.kf sat7 kf8 row7
      have hdl : dn.length ≤ 200 := by omega
      refine wpAny_execs_cons (append_row (y := divL (pseudoL a b).2 (f * h ^ gap)) ?_ Ev.name Ev.name sat8 row8 (by simp) (by simp only [List.length_cons]; omega) hDs fun s9 sat9 kx9 row9 => ?_)
      · rfl
      refine Ex1.stepR (Ex1.assign (Ev.call gf_zlead if_zlead (Evs.cons Ev.name .nil) (c_zlead (by omega)))) sat9 fun s10 kf10 sat10 => ?_
      refine Ex1.stepR (Ex1.assign (Ev.call gf_next_height if_next_height (Evs.cons Ev.name (Evs.cons Ev.name (Evs.cons Ev.name .nil))) (c_next_height (step := gap) sl sh (by omega) d1 s3'))) sat10 fun s11 kf11 sat11 => ?_
      refine wpAny_execs_nil ?_
      have row11 := RowAt.kf sat10 kf11 (RowAt.kf sat9 kf10 row9)
      refine ⟨(divL (pseudoL a b).2 (f * h ^ gap)).length, by rw [divL_length]; exact lrest, b, divL (pseudoL a b).2 (f * h ^ gap), leadL b, nextH (leadL b) gap h, dn ++ [divL (pseudoL a b).2 (f * h ^ gap)], rest', rfl, by rw [hrows]; simp, hrun', ⟨lb, by rw [divL_length]; omega, by simp only [List.length_append, List.length_cons, List.length_nil] at hdr ⊢; omega⟩, sat11.weaken (by walk_at "sub"), ?_, row11⟩
      exact (((kx7.trans kf8.kx).trans kx9).trans kf10.kx).trans kf11.kx
end Mine
end

section
set_option maxRecDepth 100000
namespace Mine
open PySem PySem.W PySem.Calls PyProof.Rows


/-- the gcd where one of the two is zero -/
noncomputable def onlyL (a b : List Int) : List Int := if a.length = 0 then b else a
theorem c_zgcd_nil {a b : List Int} (h : a = [] ∨ b = []) (ha : a.length ≤ 1000) (hb : b.length ≤ 1000) (h0 : onlyL a b ≠ [] → gcdL (onlyL a b) ≠ 0) (hk : Sm (gcdL (onlyL a b))) (hs : SmL (primL (onlyL a b))) :
    Fn 7 228 [.b (.zs a), .b (.zs b)] (.b (.zs (scaleL (primL (onlyL a b)) (gcdL (onlyL a b))))) := by
  refine Fn.enter ["a", "b"] (fun w => by walk_at "ent") (fun w => by walk_at "entc") (bind2 fun v u => by rfl) (by rfl) (by decide) rfl ?_
  intro w A L s₀ ok
  have hlo : (onlyL a b).length ≤ 1000 := by unfold onlyL; split <;> assumption
  refine Ex.ifelse (Tr.or (Tr.cmp (Ev.callB gb_len (Evs.cons Ev.name .nil) (Bn.len (by omega))) Ev.int Cmp.eq) fun _ => Tr.cmp (Ev.callB gb_len (Evs.cons Ev.name .nil) (Bn.len (by omega))) Ev.int Cmp.eq) (fun hc => ?_) (fun hc => ?_)
  · refine Ex.step (Ex1.assign (a := .b (.zs (onlyL a b))) ?_) ?_
    · have e : onlyL a b = if ((a.length : Int) == 0) = true then b else a := by
        unfold onlyL
        by_cases q : a.length = 0
        · rw [if_pos q, if_pos (by simpa using q)]
        · rw [if_neg q, if_neg (by simpa using q)]
      rw [e]
      exact Ev.ifl (Tr.cmp (Ev.callB gb_len (Evs.cons Ev.name .nil) (Bn.len (by omega))) Ev.int Cmp.eq) (fun _ => Ev.name) fun _ => Ev.name
    · refine Ex.ret (Ev.call gf_zscale if_zscale (Evs.cons (Ev.call gf_zprimitive if_zprimitive (Evs.cons Ev.name .nil) (c_zprimitive (by omega) h0 hk)) (Evs.cons (Ev.call gf_zcontent if_zcontent (Evs.cons Ev.name .nil) c_zcontent) .nil)) (c_zscale ?_ hs hk)) rfl
      have : (primL (onlyL a b)).length ≤ 1000 := by
        unfold primL
        split
        · exact Nat.zero_le _
        · unfold divL; rw [List.length_map]; exact hlo
      omega
  · exfalso
    rcases h with rfl | rfl <;> simp at hc

theorem primL_length (xs : List Int) : (primL xs).length = xs.length := by
  unfold primL
  split
  · next h => rw [h]; rfl
  · unfold divL; rw [List.length_map]

theorem c_zgcd {a b last : List Int} {rows : List (List Int)} (ha : a ≠ []) (hb : b ≠ []) (la : a.length ≤ 100) (lb : b.length ≤ 100) (ga : gcdL a ≠ 0) (gb : gcdL b ≠ 0) (sa : Sm (gcdL a)) (sb : Sm (gcdL b))
    (hrl : rows.length ≤ 200) (hr : SubRun (if a.length < b.length then primL b else primL a) (if a.length < b.length then primL a else primL b) 1 1 rows)
    (hlast : ((if a.length < b.length then primL b else primL a) :: (if a.length < b.length then primL a else primL b) :: rows).getLast? = some last)
    (ll : last.length ≤ 100) (gl : 1 < last.length → gcdL last ≠ 0) (sl : Sm (gcdL last)) (spl : SmL (primL last)) (sg : Sm (Int.gcd (gcdL a) (gcdL b) : Int)) :
    Fn 7 228 [.b (.zs a), .b (.zs b)] (.b (.zs (if 1 < last.length then scaleL (primL last) (Int.gcd (gcdL a) (gcdL b)) else [(Int.gcd (gcdL a) (gcdL b) : Int)]))) := by
  refine Fn.enter ["a", "b"] (fun w => by walk_at "ent") (fun w => by walk_at "entc") (bind2 fun v u => by rfl) (by rfl) (by decide) rfl ?_
  intro w A L s₀ ok
  have hla : 0 < a.length := List.length_pos_iff.mpr ha
  have hlb : 0 < b.length := List.length_pos_iff.mpr hb
  refine Ex.ifelse (Tr.or (Tr.cmp (Ev.callB gb_len (Evs.cons Ev.name .nil) (Bn.len (by omega))) Ev.int Cmp.eq) fun _ => Tr.cmp (Ev.callB gb_len (Evs.cons Ev.name .nil) (Bn.len (by omega))) Ev.int Cmp.eq) (fun hc => ?_) (fun hc => Ex.nil ?_)
  · exfalso; simp [ha, hb] at hc
  refine Ex.step (Ex1.assign (Ev.call gf_gcd if_gcd (Evs.cons (Ev.call gf_zcontent if_zcontent (Evs.cons Ev.name .nil) c_zcontent) (Evs.cons (Ev.call gf_zcontent if_zcontent (Evs.cons Ev.name .nil) c_zcontent) .nil)) c_gcd)) ?_
  have hr' : SubRun (if (primL a).length < (primL b).length then primL b else primL a) (if (primL a).length < (primL b).length then primL a else primL b) 1 1 rows := by
    rw [primL_length, primL_length]; exact hr
  have hlast' : ((if (primL a).length < (primL b).length then primL b else primL a) :: (if (primL a).length < (primL b).length then primL a else primL b) :: rows).getLast? = some last := by
    rw [primL_length, primL_length]; exact hlast
  refine Ex.step (Ex1.assign (Ev.lastR (Ev.call gf_subresultants if_subresultants (Evs.cons (Ev.call gf_zprimitive if_zprimitive (Evs.cons Ev.name .nil) (c_zprimitive (by omega) (fun _ => ga) sa)) (Evs.cons (Ev.call gf_zprimitive if_zprimitive (Evs.cons Ev.name .nil) (c_zprimitive (by omega) (fun _ => gb) sb)) .nil)) (c_subresultants (by rw [primL_length]; exact la) (by rw [primL_length]; exact lb) hrl hr')) (Ev.neg Ev.int) hlast')) ?_
  by_cases h1 : 1 < last.length
  · rw [if_pos h1]
    have hdec : decide ((1 : Int) < (last.length : Int)) = true := by simp; omega
    exact Ex.ret (Ev.ifl (b := true) (m := scaleL (primL last) (Int.gcd (gcdL a) (gcdL b))) (n := []) (hdec ▸ Tr.cmp (Ev.callB gb_len (Evs.cons Ev.name .nil) (Bn.len (by omega))) Ev.int Cmp.gt) (fun _ => Ev.call gf_zscale if_zscale (Evs.cons (Ev.call gf_zprimitive if_zprimitive (Evs.cons Ev.name .nil) (c_zprimitive (by omega) (fun _ => gl h1) sl)) (Evs.cons Ev.name .nil)) (c_zscale (by rw [primL_length]; omega) spl sg)) fun hh => by cases hh) rfl
  · rw [if_neg h1]
    have hdec : decide ((1 : Int) < (last.length : Int)) = false := by simp; omega
    exact Ex.ret (Ev.ifl (b := false) (m := []) (n := [(Int.gcd (gcdL a) (gcdL b) : Int)]) (hdec ▸ Tr.cmp (Ev.callB gb_len (Evs.cons Ev.name .nil) (Bn.len (by omega))) Ev.int Cmp.gt) (fun hh => by cases hh) fun _ => Ev.listI (xs := [(Int.gcd (gcdL a) (gcdL b) : Int)]) (Evs.cons Ev.name .nil)) rfl

theorem c_zgcd_all {xss : List (List Int)} {F : Nat → List Int} (h0 : F 0 = []) (h : ∀ i, i < xss.length → Fn 7 228 [.b (.zs (F i)), .b (.zs (xss.getD i []))] (.b (.zs (F (i + 1))))) : Fn 8 235 [.b (.zss xss)] (.b (.zs (F xss.length))) := by
  refine Fn.enter ["row"] (fun w => by walk_at "ent") (fun w => by walk_at "entc") (bind1 fun v => by rfl) (by rfl) (by decide) rfl ?_
  intro w A L s₀ ok
  refine Ex.step (Ex1.assign (Ev.listI (xs := []) .nil)) ?_
  refine Ex.step (ρ' := [("row", .b (.zss xss)), ("found", .b (.zs (F xss.length)))]) ?_ (Ex.ret Ev.name rfl)
  refine Ex1.for (Src.rows Ev.name) (fun i => [("row", .b (.zss xss)), ("found", .b (.zs (F i)))]) ?_ (fun i hi => ?_) rfl
  · rw [h0]; walk_at "sub"
  · exact Ex.step (Ex1.assign (Ev.call gf_zgcd if_zgcd (Evs.cons Ev.name (Evs.cons Ev.name .nil)) (h i hi))) (Ex.nil (by show Sub _ _; walk_at "sub"))
end Mine
end

section
set_option maxRecDepth 100000
namespace Mine
open PySem PySem.W PySem.Calls PyProof.Rows


theorem powG_nb : ∀ (n m : Nat), m ≤ n → ∀ (a b : Nat) (fo fa : List Int), Nb a fo → Nb b fa → Nb (a + b * m) (powG fo fa m) ∧ (powG fo fa m).length ≤ fo.length + fa.length * m
  | 0, m, hm, a, b, fo, fa, h1, h2 => by
    have : m = 0 := by omega
    subst this
    rw [powG_zero]
    exact ⟨h1.le (by omega), by omega⟩
  | n + 1, m, hm, a, b, fo, fa, h1, h2 => by
    by_cases h0 : m = 0
    · subst h0
      rw [powG_zero]
      exact ⟨h1.le (by omega), by omega⟩
    · rw [powG]
      rw [dif_neg h0]
      by_cases hodd : m % 2 = 1
      · rw [if_pos hodd]
        by_cases h1m : 1 < m
        · rw [if_pos h1m]
          have ih := powG_nb n (m / 2) (by omega) (a + b) (b + b) _ _ (h1.mul h2) (h2.mul h2)
          have e : a + b + (b + b) * (m / 2) = a + b * m := by
            have : m = 2 * (m / 2) + 1 := by omega
            generalize m / 2 = q at *
            rw [this, Nat.mul_add, ← Nat.mul_assoc, Nat.mul_comm b 2, Nat.two_mul]; omega
          rw [e] at ih
          refine ⟨ih.1, Nat.le_trans ih.2 ?_⟩
          have l1 := mulL_length fo fa
          have l2 := mulL_length fa fa
          have l3 : (mulL fa fa).length * (m / 2) ≤ (2 * fa.length) * (m / 2) := Nat.mul_le_mul_right _ (by omega)
          have : fa.length * m = (2 * fa.length) * (m / 2) + fa.length := by
            have : m = 2 * (m / 2) + 1 := by omega
            generalize m / 2 = q at *
            rw [this, Nat.mul_add, Nat.mul_one, ← Nat.mul_assoc, Nat.mul_comm fa.length 2]
          omega
        · rw [if_neg h1m]
          have : m = 1 := by omega
          subst this
          rw [show 1 / 2 = 0 from rfl, powG_zero, Nat.mul_one, Nat.mul_one]
          have l1 := mulL_length fo fa
          exact ⟨h1.mul h2, by omega⟩
      · rw [if_neg hodd, if_pos (by omega : 1 < m)]
        have ih := powG_nb n (m / 2) (by omega) a (b + b) _ _ h1 (h2.mul h2)
        have e : a + (b + b) * (m / 2) = a + b * m := by
          have : m = 2 * (m / 2) := by omega
          generalize m / 2 = q at *
          rw [this, ← Nat.mul_assoc, Nat.mul_comm b 2, Nat.two_mul]
        rw [e] at ih
        refine ⟨ih.1, Nat.le_trans ih.2 ?_⟩
        have l2 := mulL_length fa fa
        have l3 : (mulL fa fa).length * (m / 2) ≤ (2 * fa.length) * (m / 2) := Nat.mul_le_mul_right _ (by omega)
        have : fa.length * m = (2 * fa.length) * (m / 2) := by
          have : m = 2 * (m / 2) := by omega
          generalize m / 2 = q at *
          rw [this, ← Nat.mul_assoc, Nat.mul_comm fa.length 2]
        omega

theorem mul_len {xs ys : List Int} {m n : Nat} (h1 : xs.length ≤ m) (h2 : ys.length ≤ n) : (mulL xs ys).length ≤ m + n := by have := mulL_length xs ys; omega
theorem scale_len {xs : List Int} {k : Int} {m : Nat} (h : xs.length ≤ m) : (scaleL xs k).length ≤ m := Nat.le_trans (scaleL_length xs k) h
theorem derive_len {xs : List Int} {m : Nat} (h : xs.length ≤ m + 1) : (deriveL xs).length ≤ m := by rw [deriveL_length]; omega
theorem sub_len {xs ys : List Int} {m : Nat} (h1 : xs.length ≤ m) (h2 : ys.length ≤ m) : (subL xs ys).length ≤ m := Nat.le_trans (subL_length xs ys) (Nat.max_le.mpr ⟨h1, h2⟩)
theorem add_len {xs ys : List Int} {m : Nat} (h1 : xs.length ≤ m) (h2 : ys.length ≤ m) : (addL xs ys).length ≤ m := Nat.le_trans (addL_length xs ys) (Nat.max_le.mpr ⟨h1, h2⟩)
theorem kle {k a b c : Nat} (hk : k ≤ a) (h : a + b ≤ c) : k + b ≤ c := Nat.le_trans (Nat.add_le_add_right hk b) h
theorem kle2 {k a b c : Nat} (hk : k ≤ a) (h : 2 * a + b ≤ c) : 2 * k + b ≤ c := by omega
theorem kle3 {k a b c : Nat} (hk : k ≤ a) (h : 3 * a + b ≤ c) : 3 * k + b ≤ c := by omega
theorem le1 {n m l : Nat} (h : n ≤ m) (h' : m ≤ l) : n ≤ l := Nat.le_trans h h'
noncomputable def besideL (f : List Int) (m : Int) : List Int := subL (scaleL f m) (mulL [0, 1] (deriveL f))
theorem besideL_length (f : List Int) (m : Int) : (besideL f m).length ≤ f.length + 1 := by
  unfold besideL
  have h1 := subL_length (scaleL f m) (mulL [0, 1] (deriveL f))
  have h2 := scaleL_length f m
  have h3 := mulL_length [0, 1] (deriveL f)
  have h4 := deriveL_length f
  simp only [List.length_cons, List.length_nil] at h3
  omega
theorem beside_len {f : List Int} {m : Int} {n : Nat} (h : f.length ≤ n) : (besideL f m).length ≤ n + 1 := Nat.le_trans (besideL_length f m) (Nat.add_le_add_right h 1)
theorem nsum1 (k : Nat) : k + 10 + (k + 12) = 2 * k + 22 := by omega
theorem nsum2 (k : Nat) : k + 11 + (k + 11) = 2 * k + 22 := by omega
theorem nsum3 (k : Nat) : k + 5 + (2 * k + 29) = 3 * k + 34 := by omega
theorem nsum4 (k : Nat) : k + 6 + (2 * k + 28) = 3 * k + 34 := by omega
theorem Nb.beside {k : Nat} {f : List Int} {m : Int} (h : Nb k f) (hl : f.length ≤ 20) (hm : m.natAbs ≤ 8) : Nb (k + 6) (besideL f m) := by
  unfold besideL
  refine Nb.sub ((h.scale (l := 3) (by omega)).le (by omega)) ?_
  have h1 : Nb 0 [0, 1] := (by decide : 1 ≤ 2 ^ 0)
  exact (h1.mul (h.derive (l := 5) (by omega))).le (by omega)
theorem c_beside {f : List Int} {m : Int} {k : Nat} (hl : f.length ≤ 20) (hb : Nb k f) (hk : k ≤ 1000) (hm : m.natAbs ≤ 8) : Fn 4 256 [.b (.zs f), .b (.int m)] (.b (.zs (besideL f m))) := by
  refine Fn.enter ["f", "many"] (fun w => by walk_at "ent") (fun w => by walk_at "entc") (bind2 fun v u => by rfl) (by rfl) (by decide) rfl ?_
  intro w A L s₀ ok
  have h4 : (deriveL f).length ≤ 20 := derive_len (le1 hl (by decide))
  have sf : SmL f := SmL.ofNb hb (Nat.lt_of_le_of_lt hk (by decide))
  have sd : SmL (deriveL f) := SmL.ofNb (hb.derive (l := 5) (le1 hl (by decide))) (Nat.lt_of_le_of_lt (Nat.add_le_add_right hk 5) (by decide))
  have s01 : SmL [0, 1] := SmL.ofNb (k := 0) (show 1 ≤ 2 ^ 0 by decide) (by decide)
  exact Ex.ret (Ev.call gf_zsub if_zsub (Evs.cons (Ev.call gf_zscale if_zscale (Evs.cons Ev.name (Evs.cons Ev.name .nil)) (c_zscale (le1 hl (by decide)) sf (Sm.small (le1 hm (by decide))))) (Evs.cons (Ev.call gf_zmul if_zmul (Evs.cons (Ev.listI (xs := [0, 1]) (Evs.cons Ev.int (Evs.cons Ev.int .nil))) (Evs.cons (Ev.call gf_zderive if_zderive (Evs.cons Ev.name .nil) (c_zderive (le1 hl (by decide)) sf)) .nil)) (c_zmul (by decide) (le1 h4 (by decide)) s01 sd)) .nil)) (c_zsub (le1 (scale_len hl) (by decide)) (le1 (mul_len (m := 2) (by decide) h4) (by decide)))) rfl

noncomputable def secondL (f : List Int) : List Int := subL (mulL (deriveL (deriveL f)) (besideL (besideL f 4) 3)) (mulL (besideL (deriveL f) 3) (besideL (deriveL f) 3))
noncomputable def thirdL (f : List Int) : List Int := subL (mulL (deriveL f) (besideL (secondL f) 4)) (mulL (besideL f 4) (deriveL (secondL f)))
theorem secondL_facts {f : List Int} {k : Nat} (hl : f.length ≤ 5) (hb : Nb k f) : (secondL f).length ≤ 11 ∧ Nb (2 * k + 23) (secondL f) := by
  have n1 : Nb (k + 5) (deriveL f) := hb.derive (le1 hl (by decide))
  have n2 : Nb (k + 6) (besideL f 4) := hb.beside (le1 hl (by decide)) (by decide)
  have n3 : Nb (k + 12) (besideL (besideL f 4) 3) := n2.beside (le1 (beside_len hl) (by decide)) (by decide)
  have n4 : Nb (k + 11) (besideL (deriveL f) 3) := n1.beside (le1 (derive_len (m := 5) (le1 hl (by decide))) (by decide)) (by decide)
  have n5 : Nb (k + 10) (deriveL (deriveL f)) := n1.derive (l := 5) (le1 (derive_len (m := 5) (le1 hl (by decide))) (by decide))
  unfold secondL
  exact ⟨sub_len (le1 (mul_len (derive_len (m := 3) (derive_len hl)) (beside_len (beside_len hl))) (by decide)) (le1 (mul_len (beside_len (derive_len (m := 4) hl)) (beside_len (derive_len (m := 4) hl))) (by decide)), Nb.sub (k := 2 * k + 22) (nsum1 k ▸ n5.mul n3) (nsum2 k ▸ n4.mul n4)⟩
theorem thirdL_facts {f : List Int} {k : Nat} (hl : f.length ≤ 5) (hb : Nb k f) : (thirdL f).length ≤ 20 ∧ Nb (3 * k + 35) (thirdL f) := by
  obtain ⟨l2, nb2⟩ := secondL_facts hl hb
  have n1 : Nb (k + 5) (deriveL f) := hb.derive (le1 hl (by decide))
  have n2 : Nb (k + 6) (besideL f 4) := hb.beside (le1 hl (by decide)) (by decide)
  have n3 : Nb (2 * k + 29) (besideL (secondL f) 4) := nb2.beside (le1 l2 (by decide)) (by decide)
  have n4 : Nb (2 * k + 28) (deriveL (secondL f)) := nb2.derive (l := 5) (le1 l2 (by decide))
  unfold thirdL
  exact ⟨sub_len (le1 (mul_len (derive_len (m := 4) hl) (beside_len l2)) (by decide)) (le1 (mul_len (beside_len hl) (derive_len (m := 11) (le1 l2 (by decide)))) (by decide)), Nb.sub (k := 3 * k + 34) (nsum3 k ▸ n1.mul n3) (nsum4 k ▸ n2.mul n4)⟩

theorem c_slopes {f : List Int} {k : Nat} (hl : f.length ≤ 5) (hb : Nb k f) (hk : k ≤ 300) : Fn 5 263 [.b (.zs f)] (.tup [.zs (secondL f), .zs (thirdL f)]) := by
  refine Fn.enter ["f"] (fun w => by walk_at "ent") (fun w => by walk_at "entc") (bind1 fun v => by rfl) (by rfl) (by decide) rfl ?_
  intro w A L s₀ ok
  obtain ⟨l2, nb2⟩ := secondL_facts hl hb
  have d1 : (deriveL f).length ≤ 4 := derive_len hl
  have d2 : (deriveL (deriveL f)).length ≤ 3 := derive_len d1
  have e1 : (besideL f 4).length ≤ 6 := beside_len hl
  have e2 : (besideL (besideL f 4) 3).length ≤ 7 := beside_len e1
  have e3 : (besideL (deriveL f) 3).length ≤ 5 := beside_len d1
  have e4 : (besideL (secondL f) 4).length ≤ 12 := beside_len l2
  have d3 : (deriveL (secondL f)).length ≤ 11 := derive_len (le1 l2 (by decide))
  have n1 : Nb (k + 5) (deriveL f) := hb.derive (le1 hl (by decide))
  have n2 : Nb (k + 6) (besideL f 4) := hb.beside (le1 hl (by decide)) (by decide)
  have n3 : Nb (k + 12) (besideL (besideL f 4) 3) := n2.beside (le1 e1 (by decide)) (by decide)
  have n4 : Nb (k + 11) (besideL (deriveL f) 3) := n1.beside (le1 d1 (by decide)) (by decide)
  have n5 : Nb (k + 10) (deriveL (deriveL f)) := n1.derive (l := 5) (le1 d1 (by decide))
  have m3 : Nb (2 * k + 29) (besideL (secondL f) 4) := nb2.beside (le1 l2 (by decide)) (by decide)
  have m4 : Nb (2 * k + 28) (deriveL (secondL f)) := nb2.derive (l := 5) (le1 l2 (by decide))
  have S : ∀ {j : Nat} {xs : List Int}, Nb j xs → j ≤ 2000 → SmL xs := fun h hj => SmL.ofNb h (Nat.lt_of_le_of_lt hj (by decide))
  have q0 := S hb (le1 hk (by decide))
  have q1 := S n1 (kle hk (by decide))
  have q2 := S n2 (kle hk (by decide))
  have q3 := S n3 (kle hk (by decide))
  have q4 := S n4 (kle hk (by decide))
  have q5 := S n5 (kle hk (by decide))
  have q6 := S nb2 (kle2 hk (by decide))
  have q7 := S m3 (kle2 hk (by decide))
  have q8 := S m4 (kle2 hk (by decide))
  refine Ex.step (Ex1.assignTs (xs := ["along", "other"]) (Ev.tup (as := [.zs (deriveL f), .zs (besideL f 4)]) (Evs.cons (Ev.call gf_zderive if_zderive (Evs.cons Ev.name .nil) (c_zderive (le1 hl (by decide)) q0)) (Evs.cons (Ev.call gf_law_beside if_law_beside (Evs.cons Ev.name (Evs.cons Ev.int .nil)) (c_beside (le1 hl (by decide)) hb (le1 hk (by decide)) (by decide))) .nil))) (by walk_at "kd2") rfl) ?_
  refine Ex.step (Ex1.assign (Ev.call gf_law_beside if_law_beside (Evs.cons Ev.name (Evs.cons Ev.int .nil)) (c_beside (le1 d1 (by decide)) n1 (kle hk (by decide)) (by decide)))) ?_
  refine Ex.step (Ex1.assign (Ev.call gf_zsub if_zsub (Evs.cons (Ev.call gf_zmul if_zmul (Evs.cons (Ev.call gf_zderive if_zderive (Evs.cons Ev.name .nil) (c_zderive (le1 d1 (by decide)) q1)) (Evs.cons (Ev.call gf_law_beside if_law_beside (Evs.cons Ev.name (Evs.cons Ev.int .nil)) (c_beside (le1 e1 (by decide)) n2 (kle hk (by decide)) (by decide))) .nil)) (c_zmul (le1 d2 (by decide)) (le1 e2 (by decide)) q5 q3)) (Evs.cons (Ev.call gf_zmul if_zmul (Evs.cons Ev.name (Evs.cons Ev.name .nil)) (c_zmul (le1 e3 (by decide)) (le1 e3 (by decide)) q4 q4)) .nil)) (c_zsub (le1 (mul_len d2 e2) (by decide)) (le1 (mul_len e3 e3) (by decide))))) ?_
  show Ex _ [("second", .b (.zs (secondL f))), ("across", _), _, _, _] _ _
  refine Ex.step (Ex1.assign (Ev.call gf_zsub if_zsub (Evs.cons (Ev.call gf_zmul if_zmul (Evs.cons Ev.name (Evs.cons (Ev.call gf_law_beside if_law_beside (Evs.cons Ev.name (Evs.cons Ev.int .nil)) (c_beside (le1 l2 (by decide)) nb2 (kle2 hk (by decide)) (by decide))) .nil)) (c_zmul (le1 d1 (by decide)) (le1 e4 (by decide)) q1 q7)) (Evs.cons (Ev.call gf_zmul if_zmul (Evs.cons Ev.name (Evs.cons (Ev.call gf_zderive if_zderive (Evs.cons Ev.name .nil) (c_zderive (le1 l2 (by decide)) q6)) .nil)) (c_zmul (le1 e1 (by decide)) (le1 d3 (by decide)) q2 q8)) .nil)) (c_zsub (le1 (mul_len d1 e4) (by decide)) (le1 (mul_len e1 d3) (by decide))))) ?_
  exact Ex.ret (Ev.tup (as := [.zs (secondL f), .zs (thirdL f)]) (Evs.cons Ev.name (Evs.cons Ev.name .nil))) rfl
end Mine
end

section
set_option maxRecDepth 100000
namespace Mine
open PySem PySem.W PySem.Calls PyProof.Rows


/-- an int of k bits -/
noncomputable def Bd (k : Nat) (n : Int) : Prop := n.natAbs ≤ 2 ^ k
theorem Bd.le {k l : Nat} {n : Int} (h : Bd k n) (hl : k ≤ l) : Bd l n := Nat.le_trans h (Nat.pow_le_pow_right (by decide) hl)
theorem Bd.mul {k l : Nat} {m n : Int} (h : Bd k m) (h' : Bd l n) : Bd (k + l) (m * n) := by
  unfold Bd; rw [Int.natAbs_mul, Nat.pow_add]; exact Nat.mul_le_mul h h'
theorem Bd.add {k : Nat} {m n : Int} (h : Bd k m) (h' : Bd k n) : Bd (k + 1) (m + n) := by
  unfold Bd at *; rw [Nat.pow_succ]; omega
theorem Bd.sub {k : Nat} {m n : Int} (h : Bd k m) (h' : Bd k n) : Bd (k + 1) (m - n) := by
  unfold Bd at *; rw [Nat.pow_succ]; omega
theorem Bd.neg {k : Nat} {m : Int} (h : Bd k m) : Bd k (-m) := by unfold Bd at *; rwa [Int.natAbs_neg]
theorem Bd.pow {k : Nat} {m : Int} (h : Bd k m) (n : Nat) : Bd (k * n) (m ^ n) := by
  unfold Bd at *; rw [Int.natAbs_pow, Nat.pow_mul]; exact Nat.pow_le_pow_left h n
theorem Bd.sm {k : Nat} {n : Int} (h : Bd k n) (hk : k < 4000) : Sm n := Sm.ofPow h hk

noncomputable def padL (f : List Int) : List Int := [f.getD 0 0, f.getD 1 0, f.getD 2 0, f.getD 3 0, f.getD 4 0]
theorem padL_eq {f : List Int} (h : f.length ≤ 5) : f ++ List.replicate (5 - f.length) 0 = padL f := by
  unfold padL
  match f with
  | [] => rfl
  | [_] => rfl
  | [_, _] => rfl
  | [_, _, _] => rfl
  | [_, _, _, _] => rfl
  | [_, _, _, _, _] => rfl
  | _ :: _ :: _ :: _ :: _ :: _ :: _ => simp at h
noncomputable def numI (e d c b a : Int) : Int := 12 * a * e - 3 * b * d + c * c
noncomputable def numJ (e d c b a : Int) : Int := 72 * a * c * e + 9 * b * c * d - 27 * a * d * d - 27 * e * b * b - 2 * c ^ 3
noncomputable def ofPad (F : Int → Int → Int → Int → Int → Int) (f : List Int) : Int := F (f.getD 0 0) (f.getD 1 0) (f.getD 2 0) (f.getD 3 0) (f.getD 4 0)
theorem Bd.numI {e d c b a : Int} {k : Nat} (he : Bd k e) (hd : Bd k d) (hc : Bd k c) (hb : Bd k b) (ha : Bd k a) : Bd (2 * k + 6) (numI e d c b a) := by
  have b12 : Bd 4 12 := (by decide : 12 ≤ 2 ^ 4)
  have b3 : Bd 4 3 := (by decide : 3 ≤ 2 ^ 4)
  exact ((((((b12.mul ha).mul he).sub ((b3.mul hb).mul hd)).le (by omega : _ ≤ 2 * k + 5)).add ((hc.mul hc).le (by omega))).le (by omega))
theorem Bd.numJ {e d c b a : Int} {k : Nat} (he : Bd k e) (hd : Bd k d) (hc : Bd k c) (hb : Bd k b) (ha : Bd k a) : Bd (3 * k + 11) (numJ e d c b a) := by
  have b72 : Bd 7 72 := (by decide : 72 ≤ 2 ^ 7)
  have b9 : Bd 7 9 := (by decide : 9 ≤ 2 ^ 7)
  have b27 : Bd 7 27 := (by decide : 27 ≤ 2 ^ 7)
  have b2 : Bd 7 2 := (by decide : 2 ≤ 2 ^ 7)
  have t1 := ((((b72.mul ha).mul hc).mul he).add (((b9.mul hb).mul hc).mul hd))
  have t2 := (t1.sub ((((b27.mul ha).mul hd).mul hd).le (by omega)))
  have t3 := (t2.sub ((((b27.mul he).mul hb).mul hb).le (by omega)))
  exact (t3.sub ((b2.mul (hc.pow 3)).le (by omega))).le (by omega)

theorem c_numbers {f : List Int} {k : Nat} (hl : f.length ≤ 5) (hb : Nb k f) (hk : k ≤ 1000) : Fn 1 270 [.b (.zs f)] (.tup [.int (ofPad numI f), .int (ofPad numJ f)]) := by
  refine Fn.enter ["f"] (fun w => by walk_at "ent") (fun w => by walk_at "entc") (bind1 fun v => by rfl) (by rfl) (by decide) rfl ?_
  intro w A L s₀ ok
  have B : ∀ i, Bd k (f.getD i 0) := fun i => hb.get i
  refine Ex.step (Ex1.assignL (xs := ["e", "d", "c", "b", "a"]) (ns := padL f) ?_ isNames5 (by walk_at "kd5") rfl) ?_
  · have e : padL f = f ++ (List.replicate ((5 - (f.length : Int))).toNat [(0 : Int)]).flatten := by
      rw [flat_rep, ← padL_eq hl]
      congr 2
      omega
    rw [e]
    exact Ev.cat Ev.name (Ev.rep (Ev.listI (xs := [0]) (Evs.cons Ev.int .nil)) (Ev.sub Ev.int (Ev.callB gb_len (Evs.cons Ev.name .nil) (Bn.len (by omega)))) (by omega) (by omega) (by decide)) (by rw [flat_rep]; simp; omega)
  have Be := B 0
  have Bdd := B 1
  have Bc := B 2
  have Bb := B 3
  have Ba := B 4
  unfold ofPad padL
  generalize f.getD 0 0 = e at *
  generalize f.getD 1 0 = d at *
  generalize f.getD 2 0 = c at *
  generalize f.getD 3 0 = b at *
  generalize f.getD 4 0 = a at *
  have b12 : Bd 7 12 := (by decide : 12 ≤ 2 ^ 7)
  have b3 : Bd 7 3 := (by decide : 3 ≤ 2 ^ 7)
  have b72 : Bd 7 72 := (by decide : 72 ≤ 2 ^ 7)
  have b9 : Bd 7 9 := (by decide : 9 ≤ 2 ^ 7)
  have b27 : Bd 7 27 := (by decide : 27 ≤ 2 ^ 7)
  have b2 : Bd 7 2 := (by decide : 2 ≤ 2 ^ 7)
  refine Ex.step (Ex1.assign (a := .b (.int (numI e d c b a))) ?_) ?_
  · exact Ev.add (Ev.sub (Ev.mul (Ev.mul Ev.int Ev.name (b12.sm (by omega)) (Ba.sm (by omega))) Ev.name ((b12.mul Ba).sm (by omega)) (Be.sm (by omega))) (Ev.mul (Ev.mul Ev.int Ev.name (b3.sm (by omega)) (Bb.sm (by omega))) Ev.name ((b3.mul Bb).sm (by omega)) (Bdd.sm (by omega)))) (Ev.mul Ev.name Ev.name (Bc.sm (by omega)) (Bc.sm (by omega)))
  refine Ex.ret (Ev.tup (as := [.int (numI e d c b a), .int (numJ e d c b a)]) (Evs.cons Ev.name (Evs.cons ?_ .nil))) rfl
  have hmul : ∀ {C : Act} {x y z u : Expr} {p q r : Pos} {k1 k2 k3 k4 : Int} {ρ : Loc}, Ev C ρ x (.b (.int k1)) → Ev C ρ y (.b (.int k2)) → Ev C ρ z (.b (.int k3)) → Ev C ρ u (.b (.int k4)) → Bd 7 k1 → Bd k k2 → Bd k k3 → Bd k k4 →
      Ev C ρ (.BinOp (.BinOp (.BinOp x .Mult y p) .Mult z q) .Mult u r) (.b (.int (k1 * k2 * k3 * k4))) := fun h1 h2 h3 h4 b1 b2 b3 b4 =>
    Ev.mul (Ev.mul (Ev.mul h1 h2 (b1.sm (by omega)) (b2.sm (by omega))) h3 ((b1.mul b2).sm (by omega)) (b3.sm (by omega))) h4 (((b1.mul b2).mul b3).sm (by omega)) (b4.sm (by omega))
  exact Ev.sub (Ev.sub (Ev.sub (Ev.add (hmul Ev.int Ev.name Ev.name Ev.name b72 Ba Bc Be) (hmul Ev.int Ev.name Ev.name Ev.name b9 Bb Bc Bdd)) (hmul Ev.int Ev.name Ev.name Ev.name b27 Ba Bdd Bdd)) (hmul Ev.int Ev.name Ev.name Ev.name b27 Be Bb Bb)) (Ev.mul Ev.int (Ev.pow Ev.name Ev.int (Bc.sm (by omega)) (by decide) (by decide)) (b2.sm (by omega)) ((Bc.pow 3).sm (by omega)))

noncomputable def movedG (f : List Int) (many : Nat) (l0 l1 : List Int) : Nat → List Int
  | 0 => []
  | i + 1 => addL (movedG f many l0 l1 i) (scaleL (mulL (powG [1] l0 i) (powG [1] l1 (many - i))) (f.getD i 0))
noncomputable def movedL (f : List Int) (many : Nat) (l0 l1 : List Int) : List Int := movedG f many l0 l1 f.length
theorem movedG_facts {f l0 l1 : List Int} {many kf kl : Nat} (h0 : l0.length ≤ 2) (h1 : l1.length ≤ 2) (n0 : Nb kl l0) (n1 : Nb kl l1) (nf : Nb kf f) : ∀ i, i ≤ many + 1 → (movedG f many l0 l1 i).length ≤ 2 * many + 2 ∧ Nb (kl * many + kf + i) (movedG f many l0 l1 i)
  | 0, _ => ⟨Nat.zero_le _, Nb.nil⟩
  | i + 1, hi => by
    obtain ⟨h2, h3⟩ := movedG_facts (many := many) h0 h1 n0 n1 nf i (by omega)
    have p0 := powG_nb i i (Nat.le_refl _) 0 kl [1] l0 (by decide : 1 ≤ 2 ^ 0) n0
    have p1 := powG_nb (many - i) (many - i) (Nat.le_refl _) 0 kl [1] l1 (by decide : 1 ≤ 2 ^ 0) n1
    have q0 : l0.length * i ≤ 2 * i := Nat.mul_le_mul_right _ h0
    have q1 : l1.length * (many - i) ≤ 2 * (many - i) := Nat.mul_le_mul_right _ h1
    have lm := mulL_length (powG [1] l0 i) (powG [1] l1 (many - i))
    have ls := scaleL_length (mulL (powG [1] l0 i) (powG [1] l1 (many - i))) (f.getD i 0)
    have la := addL_length (movedG f many l0 l1 i) (scaleL (mulL (powG [1] l0 i) (powG [1] l1 (many - i))) (f.getD i 0))
    have e : kl * i + kl * (many - i) = kl * many := by rw [← Nat.mul_add]; congr 1; omega
    simp only [List.length_cons, List.length_nil] at p0 p1
    refine ⟨by rw [movedG]; omega, ?_⟩
    rw [movedG]
    refine (Nb.add (k := kl * many + kf + i) h3 ?_).le (by omega)
    exact ((p0.1.mul p1.1).scale (nf.get i)).le (by omega)

theorem c_moved {f l0 l1 : List Int} {many kf kl : Nat} (hf : f.length ≤ many + 1) (hm : many ≤ 8) (h0 : l0.length ≤ 2) (h1 : l1.length ≤ 2) (n0 : Nb kl l0) (n1 : Nb kl l1) (nf : Nb kf f) (hkl : kl ≤ 20) (hkf : kf ≤ 1000) :
    Fn 3 249 [.b (.zs f), .b (.int many), .tup [.zs l0, .zs l1]] (.b (.zs (movedL f many l0 l1))) := by
  refine Fn.enter ["f", "many", "lines"] (fun w => by walk_at "ent") (fun w => by walk_at "entc") (bind3 fun v u t => by rfl) (by rfl) (by decide) rfl ?_
  intro w A L s₀ ok
  refine Ex.step (Ex1.assign (Ev.listI (xs := []) .nil)) ?_
  refine Ex.step (ρ' := [("f", .b (.zs f)), ("many", .b (.int many)), ("lines", .tup [.zs l0, .zs l1]), ("found", .b (.zs (movedL f many l0 l1)))]) ?_ (Ex.ret Ev.name rfl)
  refine Ex1.forEnum gb_enumerate (Evs.cons Ev.name .nil) (fun i => [("f", .b (.zs f)), ("many", .b (.int many)), ("lines", .tup [.zs l0, .zs l1]), ("found", .b (.zs (movedG f many l0 l1 i)))]) (by walk_at "sub") (fun i n hn => ?_) rfl
  have hi : i < f.length := (List.getElem?_eq_some_iff.mp hn).1
  have hn' : f.getD i 0 = n := by simp [List.getD, hn]
  have p0 := powG_nb i i (Nat.le_refl _) 0 kl [1] l0 (by decide : 1 ≤ 2 ^ 0) n0
  have p1 := powG_nb (many - i) (many - i) (Nat.le_refl _) 0 kl [1] l1 (by decide : 1 ≤ 2 ^ 0) n1
  have q0 : l0.length * i ≤ 2 * i := Nat.mul_le_mul_right _ h0
  have q1 : l1.length * (many - i) ≤ 2 * (many - i) := Nat.mul_le_mul_right _ h1
  have r0 : kl * i ≤ 20 * 8 := Nat.mul_le_mul hkl (by omega)
  have r1 : kl * (many - i) ≤ 20 * 8 := Nat.mul_le_mul hkl (by omega)
  have lm := mulL_length (powG [1] l0 i) (powG [1] l1 (many - i))
  have ls := scaleL_length (mulL (powG [1] l0 i) (powG [1] l1 (many - i))) n
  have hg := movedG_facts (many := many) h0 h1 n0 n1 nf i (by omega)
  simp only [List.length_cons, List.length_nil] at p0 p1
  have em : (many : Int) - (i : Int) = ((many - i : Nat) : Int) := by omega
  refine Ex.step (Ex1.assign (Ev.call gf_zmul if_zmul (Evs.cons (Ev.call gf_zpower if_zpower (Evs.cons (Ev.idxT Ev.name Ev.int (by decide) (by decide) rfl) (Evs.cons Ev.name .nil)) (c_zpower (by omega) (by omega) (by omega) n0)) (Evs.cons (Ev.call gf_zpower if_zpower (Evs.cons (Ev.idxT Ev.name Ev.int (by decide) (by decide) rfl) (Evs.cons (em ▸ Ev.sub Ev.name Ev.name) .nil)) (c_zpower (m := many - i) (by omega) (by omega) (by omega) n1)) .nil)) (c_zmul (by omega) (by omega) (SmL.ofNb p0.1 (by omega)) (SmL.ofNb p1.1 (by omega))))) ?_
  refine Ex.step (Ex1.assign (Ev.call gf_zadd if_zadd (Evs.cons Ev.name (Evs.cons (Ev.call gf_zscale if_zscale (Evs.cons Ev.name (Evs.cons Ev.name .nil)) (c_zscale (by omega) (SmL.ofNb (p0.1.mul p1.1) (by omega)) (Sm.ofPow (hn' ▸ nf.get i) (by omega)))) .nil)) (c_zadd (by omega) (by omega)))) (Ex.nil ?_)
  show Sub _ _
  rw [movedG, hn']
  walk_at "sub"
end Mine
end

section
set_option maxRecDepth 100000
namespace Mine
open PySem PySem.W PySem.Calls PyProof.Rows


noncomputable def at2 (m : List (List Int)) (r c : Nat) : Int := (m.getD r []).getD c 0
noncomputable def pivotG (m : List (List Int)) (step : Nat) : Nat → Nat → Option Nat
  | 0, _ => none
  | k + 1, r => if at2 m r step != 0 then some r else pivotG m step k (r + 1)
theorem pivotG_skip (m : List (List Int)) (step : Nat) : ∀ (i k r : Nat), i ≤ k → (∀ j, j < i → at2 m (r + j) step = 0) → pivotG m step k r = pivotG m step (k - i) (r + i)
  | 0, k, r, _, _ => rfl
  | i + 1, 0, r, h, _ => by omega
  | i + 1, k + 1, r, h, hz => by
    have h0 := hz 0 (by omega)
    rw [pivotG]
    rw [if_neg (by rw [show r + 0 = r from rfl] at h0; simp [h0])]
    rw [pivotG_skip m step i k (r + 1) (by omega) (fun j hj => by rw [show r + 1 + j = r + (j + 1) by omega]; exact hz (j + 1) (by omega))]
    congr 1 <;> omega
noncomputable def optA : Option Nat → A0
  | some r => .int r
  | none => .none
theorem c_pivot_row {m : List (List Int)} {step : Nat} (hm : m.length ≤ 100) (hs : step ≤ m.length) (hsq : ∀ r ∈ m, step < r.length) : Fn 1 41 [.b (.zss m), .b (.int step)] (.b (optA (pivotG m step (m.length - step) step))) := by
  refine Fn.enter ["a", "step"] (fun w => by walk_at "ent") (fun w => by walk_at "entc") (bind2 fun v u => by rfl) (by rfl) (by decide) rfl ?_
  intro w A L s₀ ok
  refine Ex.cons (K₁ := fun o => (o = .next [("a", .b (.zss m)), ("step", .b (.int step))] ∧ pivotG m step (m.length - step) step = none) ∨ ∃ r, o = .ret (.b (.int (r : Nat))) ∧ pivotG m step (m.length - step) step = some r) ?_ (fun ρ' h => ?_) (fun a h => ?_)
  · refine Ex1.forP (Src.range2 gb_range (Evs.cons Ev.name (Evs.cons (Ev.callB gb_len (Evs.cons Ev.name .nil) (Bn.lenR (by omega))) .nil)) (by omega) (by omega)) (fun _ => [("a", .b (.zss m)), ("step", .b (.int step))]) (fun i => ∀ j, j < i → at2 m (step + j) step = 0) (fun j hj => absurd hj (Nat.not_lt_zero _)) (by walk_at "sub") (fun i hi hz => ?_) (fun hz => ?_)
    · have hi' : i < m.length - step := by omega
      have hlt : step + i < m.length := by omega
      have e1 : (step : Int) + (i : Int) = ((step + i : Nat) : Int) := by omega
      have hrow : m[step + i]? = some (m.getD (step + i) []) := by simp [List.getD, hlt]
      have hcol : step < (m.getD (step + i) []).length := hsq _ (List.mem_of_getElem? hrow)
      refine Ex.ifelse (Tr.cmp (Ev.idx (n := at2 m (step + i) step) (Ev.idxR (n := m.getD (step + i) []) Ev.name Ev.name (by omega) (by omega) (by rw [e1, Int.toNat_natCast]; exact hrow)) Ev.name (by omega) (by omega) ?_) Ev.int Cmp.ne) (fun hc => Ex.ret Ev.name ?_) (fun hc => Ex.nil (Ex.nil ⟨by walk_at "sub", fun j hj => ?_⟩))
      · rw [Int.toNat_natCast]
        unfold at2
        generalize m.getD (step + i) [] = xs at *
        simp [List.getD, hcol]
      · refine Or.inr ⟨step + i, ?_, ?_⟩
        · rw [e1]
        · rw [pivotG_skip m step i _ _ (by omega) hz]
          obtain ⟨k, hk⟩ : ∃ k, m.length - step - i = k + 1 := ⟨m.length - step - i - 1, by omega⟩
          rw [hk, pivotG, if_pos hc]
      · by_cases hji : j < i
        · exact hz j hji
        · have : j = i := by omega
          subst this
          simpa using hc
    · refine Or.inl ⟨rfl, ?_⟩
      have e : ((m.length : Int) - (step : Int)).toNat = m.length - step := by omega
      rw [e] at hz
      rw [pivotG_skip m step (m.length - step) _ _ (Nat.le_refl _) hz, Nat.sub_self, pivotG]
  · rcases h with ⟨h, hn⟩ | ⟨r, h, hn⟩
    · cases h
      exact Ex.ret Ev.none (by rw [hn]; rfl)
    · cases h
  · rcases h with ⟨h, hn⟩ | ⟨r, h, hn⟩
    · cases h
    · cases h
      show AV.b _ = AV.b _
      rw [hn]; rfl
end Mine
end

section
set_option maxRecDepth 100000
namespace Mine
open PySem PySem.W PySem.Calls PyProof.Rows


noncomputable def colG (m : List (List Int)) (step r : Nat) (lead first ahead : Int) : Nat → List (List Int)
  | 0 => m
  | i + 1 => setM (colG m step r lead first ahead i) r (step + 1 + i) ((at2 (colG m step r lead first ahead i) r (step + 1 + i) * lead - first * at2 (colG m step r lead first ahead i) step (step + 1 + i)).fdiv ahead)
noncomputable def rowsG (m : List (List Int)) (step : Nat) (lead ahead : Int) (n : Nat) : Nat → List (List Int)
  | 0 => m
  | i + 1 => setM (colG (rowsG m step lead ahead n i) step (step + 1 + i) lead (at2 (rowsG m step lead ahead n i) (step + 1 + i) step) ahead (n - (step + 1))) (step + 1 + i) step 0
noncomputable def bareissL (m : List (List Int)) (step : Nat) (ahead : Int) : List (List Int) := rowsG m step (at2 m step step) ahead m.length (m.length - (step + 1))

noncomputable def AllBd (k : Nat) (m : List (List Int)) : Prop := ∀ r c, Bd k (at2 m r c)
noncomputable def Sq (n : Nat) (m : List (List Int)) : Prop := m.length = n ∧ ∀ r ∈ m, r.length = n
theorem Bd.zero {k : Nat} : Bd k 0 := Nat.zero_le _
theorem at2_setM (m : List (List Int)) (r c : Nat) (v : Int) (i j : Nat) : at2 (setM m r c v) i j = v ∨ at2 (setM m r c v) i j = at2 m i j ∨ at2 (setM m r c v) i j = 0 := by
  unfold at2 setM
  by_cases hr : i = r
  · subst hr
    by_cases hl : i < m.length
    · simp only [List.getD, List.getElem?_set, hl, if_true]
      simp only [Option.getD_some]
      by_cases hj : c = j
      · subst hj
        by_cases hlen : c < (m[i]?.getD []).length
        · left; rw [List.getElem?_set_self hlen]; rfl
        · right; right; simp [List.getElem?_set, hlen]
      · simp [hj]
    · right; right
      simp [List.getD, List.getElem?_set, hl]
  · right; left
    have : ¬ r = i := fun q => hr q.symm
    simp [List.getD, List.getElem?_set, this]
theorem AllBd.setM {k : Nat} {m : List (List Int)} (h : AllBd k m) {r c : Nat} {v : Int} (hv : Bd k v) : AllBd k (setM m r c v) := fun i j => by
  rcases at2_setM m r c v i j with e | e | e
  · rw [e]; exact hv
  · rw [e]; exact h i j
  · rw [e]; exact Bd.zero
theorem AllBd.le {k l : Nat} {m : List (List Int)} (h : AllBd k m) (hl : k ≤ l) : AllBd l m := fun r c => (h r c).le hl
theorem Sq.setM {n : Nat} {m : List (List Int)} (h : Sq n m) {r c : Nat} {v : Int} (hr : r < n) : Sq n (setM m r c v) := by
  obtain ⟨h1, h2⟩ := h
  refine ⟨by unfold Mine.setM; rw [List.length_set]; exact h1, fun x hx => ?_⟩
  unfold Mine.setM at hx
  rcases List.mem_or_eq_of_mem_set hx with h | h
  · exact h2 x h
  · subst h
    rw [List.length_set]
    have hl : r < m.length := by omega
    exact h2 _ (by simp [List.getD, hl])
theorem Sq.row {n : Nat} {m : List (List Int)} (h : Sq n m) {r : Nat} (hr : r < n) : (m.getD r []).length = n := by
  have hl : r < m.length := by have := h.1; omega
  exact h.2 _ (by simp [List.getD, hl])
theorem Bd.fdiv {k : Nat} {x a : Int} (h : Bd k x) : Bd k (x.fdiv a) := Nat.le_trans (natAbs_fdiv_le x a) h
/-- sizes after i stores -/
noncomputable def grow (k : Nat) : Nat → Nat
  | 0 => k
  | i + 1 => 2 * grow k i + 1
theorem grow_le (k : Nat) : ∀ i, k ≤ grow k i
  | 0 => Nat.le_refl _
  | i + 1 => by have := grow_le k i; rw [grow]; omega
theorem colG_facts {m : List (List Int)} {step r n k : Nat} {lead first ahead : Int} (h : Sq n m) (hb : AllBd k m) (hr : r < n) (hl : Bd k lead) (hf : Bd k first) : ∀ i, Sq n (colG m step r lead first ahead i) ∧ AllBd (grow k i) (colG m step r lead first ahead i)
  | 0 => ⟨h, hb⟩
  | i + 1 => by
    obtain ⟨h1, h2⟩ := colG_facts (step := step) (ahead := ahead) h hb hr hl hf i
    have hg := grow_le k i
    rw [colG, grow]
    refine ⟨h1.setM hr, (h2.le (by omega)).setM ?_⟩
    have := (((h2 r (step + 1 + i)).mul (hl.le hg)).sub ((hf.le hg).mul (h2 step (step + 1 + i)))).fdiv (a := ahead)
    exact this.le (by omega)
noncomputable def growR (k n : Nat) : Nat → Nat
  | 0 => k
  | i + 1 => grow (growR k n i) n
theorem growR_le (k n : Nat) : ∀ i, k ≤ growR k n i
  | 0 => Nat.le_refl _
  | i + 1 => by have := growR_le k n i; have := grow_le (growR k n i) n; rw [growR]; omega
theorem rowsG_facts {m : List (List Int)} {step n k : Nat} {lead ahead : Int} (h : Sq n m) (hb : AllBd k m) (hl : Bd k lead) : ∀ i, step + 1 + i ≤ n → Sq n (rowsG m step lead ahead n i) ∧ AllBd (growR k (n - (step + 1)) i) (rowsG m step lead ahead n i)
  | 0, _ => ⟨h, hb⟩
  | i + 1, hi => by
    obtain ⟨h1, h2⟩ := rowsG_facts (step := step) (n := n) (ahead := ahead) h hb hl i (by omega)
    have hg := growR_le k (n - (step + 1)) i
    obtain ⟨h3, h4⟩ := colG_facts (step := step) (ahead := ahead) (r := step + 1 + i) h1 h2 (by omega) (hl.le hg) (h2 (step + 1 + i) step) (n - (step + 1))
    rw [rowsG, growR]
    exact ⟨h3.setM (by omega), h4.setM Bd.zero⟩

theorem getD_row {m : List (List Int)} {n r : Nat} (h : Sq n m) (hr : r < n) : m[r]? = some (m.getD r []) := by
  have hl : r < m.length := by have := h.1; omega
  simp [List.getD, hl]
theorem getD_cell {m : List (List Int)} {n r c : Nat} (h : Sq n m) (hr : r < n) (hc : c < n) : (m.getD r [])[c]? = some (at2 m r c) := by
  have hl : c < (m.getD r []).length := by rw [h.row hr]; exact hc
  unfold at2
  generalize m.getD r [] = xs at *
  simp [List.getD, hl]
section
variable {C : Act} {ρ : Loc}
theorem Ev.cell {e i j : Expr} {p q : Pos} {m : List (List Int)} {n : Nat} {r c : Int} (h1 : Ev C ρ e (.b (.zss m))) (h2 : Ev C ρ i (.b (.int r))) (h3 : Ev C ρ j (.b (.int c))) (h : Sq n m) (r0 : 0 ≤ r) (r1 : r < n) (c0 : 0 ≤ c) (c1 : c < n) (hn : n ≤ 1000)
    (hs : ∀ a t, subscripted i false (.ref a) (.int r t) = operate [.ref a, .int r t] (getItem (.ref a) (.int r t)) := by with_unfolding_all (intro _ _; rfl))
    (hs' : ∀ a t, subscripted j false (.ref a) (.int c t) = operate [.ref a, .int c t] (getItem (.ref a) (.int c t)) := by with_unfolding_all (intro _ _; rfl)) : Ev C ρ (.Subscript (.Subscript e i p) j q) (.b (.int (at2 m r.toNat c.toNat))) :=
  Ev.idx (Ev.idxR h1 h2 r0 (by omega) (getD_row h (by omega)) hs) h3 c0 (by omega) (getD_cell h (by omega) (by omega)) hs'
/-- x = e, e seen with more known -/
theorem assignZ {ρ' : Loc} {x : Str} {p q : Pos} {e : Expr} {a : AV} {rest : List Stmt} {s : Shared} {Q : Flow → Shared → Prop} (h : Ev C ρ' e a) (hs' : Sat C ρ' s) (hs : Sat C ρ s) (hQ : ∀ s', Kf C s s' → Sat C ((x, a) :: ρ) s' → wpAny (model pg C.w) C.A (execs rest C.env) Q nE s')
    (hk : Kd C x := by first | exact Or.inl rfl | exact Or.inr ⟨rfl, rfl⟩) (hsw : swapsWith e (some (.Name x p)) q.line C.env = pure false := by rfl) :
    wpAny (model pg C.w) C.A (execs (.Assign [.Name x p] e q :: rest) C.env) Q nE s :=
  wpAny_execs_cons (wpAny_Assign_Name (h s _ hs' fun v s1 k1 r1 => store_ (hs.keeps k1) r1 hk fun s2 hs2 k2 => hQ s2 (k1.kf.trans k2) hs2) hsw)
theorem Mat.kf {s s' : Shared} {D : Addr} {as : List Addr} {m : List (List Int)} (hs : Sat C ρ s) (k : Kf C s s') (M : Mat s.heap D as m) : Mat s'.heap D as m := M.ks (hs.ks k)
theorem Sat.upM {x : Str} {s : Shared} {D : Addr} {as : List Addr} {m : List (List Int)} (hs : Sat C ρ s) (M : Mat s.heap D as m) (e : ρ.lookup x = some (.b (.ref D))) : Sat C ((x, .b (.zss m)) :: ρ) s := hs.up (b := .b (.zss m)) e M.rr
theorem Mat.seqs {h : Heap} {D : Addr} {as : List Addr} {m : List (List Int)} (M : Mat h D as m) : ∀ b ∈ D :: as, ∃ vs k, ∃ o, h.get? b = some o ∧ o.data = .seq vs k := fun b hb => by
  rcases List.mem_cons.mp hb with rfl | hb
  · obtain ⟨n, e⟩ := M.outer; exact ⟨_, _, _, e, rfl⟩
  · obtain ⟨i, hi⟩ := List.getElem?_of_mem hb
    obtain ⟨xs, _, us, ⟨n, e⟩, _⟩ := all2_at M.rows i b hi
    exact ⟨_, _, _, e, rfl⟩
theorem Mat.off {s : Shared} {D : Addr} {as : List Addr} {m : List (List Int)} (hs : Sat C ρ s) (M : Mat s.heap D as m) : ∀ b ∈ D :: as, b ≠ C.env.locals ∧ ∀ y ∈ C.env.cells, y.2 ≠ b := fun b hb => by
  rcases List.mem_cons.mp hb with rfl | hb
  · obtain ⟨n, e⟩ := M.outer; exact hs.off e
  · obtain ⟨i, hi⟩ := List.getElem?_of_mem hb
    obtain ⟨xs, _, us, ⟨n, e⟩, _⟩ := all2_at M.rows i b hi
    exact hs.off e
theorem Mat.bump {s s1 : Shared} {h' : Heap} {D I : Addr} {as : List Addr} {m m' : List (List Int)} (hs : Sat C ρ s) (M0 : Mat s.heap D as m) (hI : s.heap.get? I = none) (M : Mat s1.heap D as m')
    (hk : ∀ b o, b ≠ I → b ≠ C.env.locals → (∀ y ∈ C.env.cells, y.2 ≠ b) → s1.heap.get? b = some o → h'.get? b = some o) : Mat h' D as m' :=
  M.keep fun b o hb e => by
    obtain ⟨vs, k, o', e', _⟩ := M0.seqs b hb
    have off := M0.off hs b hb
    exact hk b o (fun q => by rw [q, hI] at e'; cases e') off.1 off.2 e
end

theorem grow_mono (k : Nat) : ∀ i j, i ≤ j → grow k i ≤ grow k j
  | i, 0, h => by have : i = 0 := by omega
                  subst this; exact Nat.le_refl _
  | i, j + 1, h => by
    by_cases e : i = j + 1
    · subst e; exact Nat.le_refl _
    · have := grow_mono k i j (by omega); rw [grow]; omega
theorem growR_mono (k n : Nat) : ∀ i j, i ≤ j → growR k n i ≤ growR k n j
  | i, 0, h => by have : i = 0 := by omega
                  subst this; exact Nat.le_refl _
  | i, j + 1, h => by
    by_cases e : i = j + 1
    · subst e; exact Nat.le_refl _
    · have := growR_mono k n i j (by omega); have := grow_le (growR k n j) n; rw [growR]; omega
theorem bareiss_room : growR 20 2 2 = 335 := by decide
theorem call_bareiss {w : World} {A : Around} {s : Shared} {D : Addr} {as : List Addr} {vs : List Value} {Q : Value → Shared → Prop} (g : Heap) {m : List (List Int)} {step n k : Nat} {ahead : Int} (hg : ∀ b o, g.get? b = some o → s.heap.get? b = some o) (tpg : Tp w g) (room : Room A 2)
    (hvs : All2 (Rep s.heap) vs [.b (.ref D), .b (.int step), .b (.int ahead)]) (M : Mat s.heap D as m) (hgn : ∀ a ∈ as, g.get? a = none) (sq : Sq n m) (hn : n ≤ 10) (hst : step < n) (hb : AllBd k m) (ha : ahead ≠ 0) (hab : Bd k ahead) (hk : growR k (n - (step + 1)) (n - (step + 1)) ≤ 1500)
    (hQ : ∀ s', Kx as s s' → Mat s'.heap D as (bareissL m step ahead) → Q .none s') : wpAny (model pg w) A (call (.ref 48) vs) Q nE s := by
  refine Fn.enterX g hg tpg room hvs ["a", "step", "ahead"] (by walk_at "ent") (by walk_at "entc") (bind3 fun v u t => by rfl) (by rfl) (by decide) rfl ?_
  intro A' L s₁ ok sat kp off
  have M1 := M.ks kp.ks
  have hml := sq.1
  refine assignZ (Ev.cell (n := n) Ev.name Ev.name Ev.name sq (by omega) (by omega) (by omega) (by omega) (by omega)) (sat.upM (x := "a") M1 rfl) sat fun s2 k2 sat2 => ?_
  rw [Int.toNat_natCast] at sat2
  have M2 := M1.kf sat k2
  have kx2 := (kp.kx (C := _) (X := as)).trans k2.kx
  have hlen : (((m.length : Int)) - ((step : Int) + 1)).toNat = n - (step + 1) := by omega
  have facts := rowsG_facts (step := step) (ahead := ahead) sq hb (hb step step)
  refine wpAny_execs_cons (forS (ρs := fun _ => _) as (fun i s' => Mat s'.heap D as (rowsG m step (at2 m step step) ahead n i)) sat2 (fun _ => rfl)
    (SrcNow.range2 gb_range (Evs.cons (Ev.add Ev.name Ev.int) (Evs.cons (Ev.callB gb_len (Evs.cons Ev.name .nil) (Bn.lenR (by omega))) .nil)) (sat2.upM (x := "a") M2 rfl) (by omega) (by omega))
    (fun b hb => M2.seqs b (List.mem_cons_of_mem _ hb)) (fun _ => rfl) (fun s1 k1 => M2.ks k1.ks) ?_ ?_ ?_ (Or.inl rfl) (by intro _; rfl))
  · intro I i s1 h' tk hI inv kx hk
    exact M2.bump sat2 hI inv hk
  · intro i s3 hi M3 sat3 kx3
    rw [hlen] at hi
    obtain ⟨sq3, bd3⟩ := facts i (by omega)
    have e1 : (step : Int) + 1 + (i : Int) = ((step + 1 + i : Nat) : Int) := by omega
    have hg := growR_le k (n - (step + 1)) i
    have hg' : growR k (n - (step + 1)) i ≤ 1500 ∧ ∀ j, j ≤ n - (step + 1) → grow (growR k (n - (step + 1)) i) j ≤ 1500 := by
      refine ⟨Nat.le_trans (growR_mono k _ i _ (by omega)) hk, fun j hj => Nat.le_trans (grow_mono _ j _ hj) (Nat.le_trans (growR_mono k _ (i + 1) (n - (step + 1)) (by omega)) hk)⟩
    generalize hm3 : rowsG m step (at2 m step step) ahead n i = m3 at *
    generalize hk3 : growR k (n - (step + 1)) i = k3 at *
    rw [e1] at sat3
    have hml3 := sq3.1
    refine assignZ (Ev.cell (n := n) Ev.name Ev.name Ev.name sq3 (by omega) (by omega) (by omega) (by omega) (by omega)) (sat3.upM (x := "a") M3 rfl) sat3 fun s4 k4 sat4 => ?_
    rw [Int.toNat_natCast, Int.toNat_natCast] at sat4
    have M4 := M3.kf sat3 k4
    have hlen4 : (((m3.length : Int)) - ((step : Int) + 1)).toNat = n - (step + 1) := by omega
    have facts4 := colG_facts (step := step) (r := step + 1 + i) (ahead := ahead) (lead := at2 m step step) (first := at2 m3 (step + 1 + i) step) sq3 bd3 (by omega) ((hb step step).le hg) (bd3 _ _)
    refine wpAny_execs_cons (forS (ρs := fun _ => _) as (fun j s' => Mat s'.heap D as (colG m3 step (step + 1 + i) (at2 m step step) (at2 m3 (step + 1 + i) step) ahead j)) sat4 (fun _ => rfl)
      (SrcNow.range2 gb_range (Evs.cons (Ev.add Ev.name Ev.int) (Evs.cons (Ev.callB gb_len (Evs.cons Ev.name .nil) (Bn.lenR (by omega))) .nil)) (sat4.upM (x := "a") M4 rfl) (by omega) (by omega))
      (fun b hb => M4.seqs b (List.mem_cons_of_mem _ hb)) (fun _ => rfl) (fun s1 k1 => M4.ks k1.ks) ?_ ?_ ?_ (Or.inl rfl) (by intro _; rfl))
    · intro I j s1 h' tk hI inv kx hk
      exact M4.bump sat4 hI inv hk
    · intro j s5 hj M5 sat5 kx5
      rw [hlen4] at hj
      obtain ⟨sq5, bd5⟩ := facts4 j
      have hg5 := hg'.2 j (by omega)
      have e2 : (step : Int) + 1 + (j : Int) = ((step + 1 + j : Nat) : Int) := by omega
      rw [e2] at sat5
      have B1 : Sm (at2 m step step) := (hb step step).sm (by omega)
      have B2 : ∀ x y, Sm (at2 (colG m3 step (step + 1 + i) (at2 m step step) (at2 m3 (step + 1 + i) step) ahead j) x y) := fun x y => (bd5 x y).sm (by omega)
      have B3 : Sm (at2 m3 (step + 1 + i) step) := (bd3 _ _).sm (by omega)
      have B4 : Sm ahead := hab.sm (by omega)
      refine wpAny_execs_cons (store_cell (x := "a") as ?_ ?_ (Ev.fdiv (Ev.sub (Ev.mul (Ev.cell (n := n) Ev.name Ev.name Ev.name sq5 (by omega) (by omega) (by omega) (by omega) (by omega)) Ev.name (B2 _ _) B1) (Ev.mul Ev.name (Ev.cell (n := n) Ev.name Ev.name Ev.name sq5 (by omega) (by omega) (by omega) (by omega) (by omega)) B3 (B2 _ _))) Ev.name ha B4)
        Ev.name Ev.name Ev.name sat5 M5 (fun a ha => ha) hgn (by omega) (by have := sq5.1; omega) (by omega) (by rw [Int.toNat_natCast, sq5.row (by omega)]; omega) (by have := sq5.1; omega) (by rw [Int.toNat_natCast, sq5.row (by omega)]; omega) fun s6 sat6 kx6 M6 => ?_)
      · rfl
      · rfl
      rw [Int.toNat_natCast, Int.toNat_natCast, Int.toNat_natCast] at M6
      exact wpAny_execs_nil ⟨sat6.weaken (by walk_at "sub"), kx6, M6⟩
    · intro s5 sat5 kx5 M5
      rw [hlen4] at M5
      obtain ⟨sq5, bd5⟩ := facts4 (n - (step + 1))
      refine wpAny_execs_cons (store_cell (x := "a") as ?_ ?_ Ev.int Ev.name Ev.name Ev.name sat5 M5 (fun a ha => ha) hgn (by omega) (by have := sq5.1; omega) (by omega) (by rw [Int.toNat_natCast, sq5.row (by omega)]; omega) (by have := sq5.1; omega) (by rw [Int.toNat_natCast, sq5.row (by omega)]; omega) fun s6 sat6 kx6 M6 => ?_)
      · rfl
      · rfl
      rw [Int.toNat_natCast, Int.toNat_natCast] at M6
      refine wpAny_execs_nil ⟨sat6.weaken (by walk_at "sub"), (k4.kx.trans kx5).trans kx6, ?_⟩
      rw [rowsG, hm3]
      exact M6
  · intro s5 sat5 kx5 M5
    rw [hlen] at M5
    refine wpAny_execs_nil (hQ s5 ?_ ?_)
    · have kx := kx2.trans kx5
      exact ⟨kx.same, fun b o hb e => kx.keep b o (off b o e).1 (off b o e).2 hb e⟩
    · unfold bareissL
      rw [hml]; exact M5
end Mine
end

section
set_option maxRecDepth 100000
namespace Mine
open PySem PySem.W PySem.Calls PyProof.Rows


section
variable {C : Act} {ρ : Loc}
theorem tup3_raw {e0 e1 e2 : Expr} {k : Nat} {p : Pos} {m n : Int} {s : Shared} {Q : Value → Shared → Prop}
    (h0 : wpAny (model pg C.w) C.A (eval e0 C.env) (fun v s1 => ∃ D, v = .ref D ∧ Sat C ρ s1 ∧ ∀ v' s2, Kp s1 s2 → Rep s2.heap v' (.tup [.ref D, .int m, .int n]) → Q v' s2) nE s) (h1 : Ev C ρ e1 (.b (.int m))) (h2 : Ev C ρ e2 (.b (.int n)))
    (he : starEach [e0, e1, e2] C.env = (false, eval e0 C.env) :: starEach [e1, e2] C.env := by rfl) (he1 : starEach [e1, e2] C.env = (false, eval e1 C.env) :: starEach [e2] C.env := by rfl) (he2 : starEach [e2] C.env = (false, eval e2 C.env) :: starEach [] C.env := by rfl) :
    wpAny (model pg C.w) C.A (eval (.Tuple [e0, e1, e2] k p) C.env) Q nE s := by
  have ht : Evs C ρ [e1, e2] [.b (.int m), .b (.int n)] := Evs.cons h1 (Evs.cons h2 .nil he2) he1
  refine wpAny_Tuple (wpAny_items_cons (wpAny_mono h0 (fun v s1 hh => ?_) fun _ _ e => e) he)
  obtain ⟨D, rfl, hs1, fin⟩ := hh
  refine ht.2 p s1 _ hs1 fun us s2 k2 r2 => ⟨?_, ?_⟩
  · have := r2.length; exact sizeL (by simp only [List.length_cons, List.length_nil] at this ⊢; omega)
  · have k3 : Kp s2 { s2 with heap := s2.heap.push { cls := .type "tuple", data := .seq (Value.ref D :: us).toArray } } := Kp.push _ _
    refine fin _ _ (k2.trans k3) ⟨_, Value.ref D :: us, rfl, ⟨_, Heap.get?_push_size _ rfl, rfl, _, rfl⟩, ?_⟩
    exact .cons rfl ((all2_base (xs := [.int m, .int n]) r2).mono fun _ _ r => r.ks k3.ks)
theorem Sat.downR {x : Str} {a : A0} {s : Shared} (hs : Sat C ρ s) (e : ρ.lookup x = some (.b a)) (hr : ∀ h v, R0 h v a → ∃ p, v = .ref p) : ∃ p : Addr, R0 s.heap (.ref p) a ∧ Sat C ((x, .b (.ref p)) :: ρ) s := by
  obtain ⟨m, cm, hn, hc, hrr⟩ := id hs.ex
  obtain ⟨v, e1, r1⟩ := hrr x _ e
  obtain ⟨p, rfl⟩ := hr _ _ r1
  refine ⟨p, r1, hs.ok, hs.same, hs.keep, m, cm, hn, hc, fun y c h => ?_⟩
  rw [List.lookup_cons] at h
  by_cases hy : y = x
  · subst hy
    rw [beq_self_eq_true] at h; cases h
    exact ⟨_, e1, rfl⟩
  · rw [beq_eq_false_iff_ne.mpr hy] at h
    exact hrr y c h
/-- [list(x) for x in rows]: a matrix, new -/
theorem copy_rows {elt iter : Expr} {x : Str} {px p : Pos} {scope : Scope} {n : Nat} {ms : List (List Int)} {s : Shared} {Q : Value → Shared → Prop}
    (hs : Sat C ρ s) (hf : Flat ρ) (src : SrcNow C iter n (fun i => .b (.zs (ms.getD i []))) (fun _ _ => True) s) (hn : ms.length = n) (hz : n ≤ 1000) (hzz : ∀ r ∈ ms, r.length ≤ 1000)
    (helt : ∀ Cn s₀ s3 xs (Q : Value → Shared → Prop), xs.length ≤ 1000 → Sat (inn C scope [] Cn s₀) [(x, .b (.zs xs))] s3 → (∀ s' D us, Kp s3 s' → s3.heap.get? D = none → s'.heap.PlainList D us.toArray → IntsAre us xs → Q (.ref D) s') → wpAny (model pg C.w) C.A (eval elt (compEnvC scope [] Cn C.env)) Q nE s3)
    (hQ : ∀ s' D as, Kp s s' → Sat C ρ s' → Mat s'.heap D as ms → (∀ b ∈ D :: as, s.heap.get? b = none) → Q (.ref D) s')
    (hclos : closureFor scope C.env = pure []) (hcell : ∀ y ∈ scope.names, y.2 ≠ .cell) (hkind : scope.kind = .function)
    (hnames : ∀ y ∈ scope.names, y.2 = .local → scope.names.lookup y.1 = some .local) (hx : scope.names.lookup x = some .local) (hss : ∀ x, foldedSetIterable iter C.env x = pure x) :
    wpAny (model pg C.w) C.A (eval (.ListComp elt [⟨.Name x px, iter, [], 0⟩] scope p) C.env) Q nE s := by
  rw [eval_ListComp]
  show wpAny _ _ (comprehension (.ListComp elt [⟨.Name x px, iter, [], 0⟩] scope p) scope C.env (firstIterPos [⟨.Name x px, iter, [], 0⟩] p) (newList []) false (eval iter C.env) none) _ _ _
  refine compS (cl := []) (ρc := []) [] (fun Z i ys s' => ∃ as : List Addr, ys = as.map Value.ref ∧ as.Nodup ∧ (∀ a ∈ as, a ∉ Z ∧ s.heap.get? a = none) ∧ All2 (fun a xs => ∃ us : List Value, s'.heap.PlainList a us.toArray ∧ IntsAre us xs) as (ms.take i))
    hs hf src (by omega) (fun b hb => nomatch hb) (fun b hb => nomatch hb) (fun _ => Or.inr rfl) (Or.inl rfl) ?_ ?_ ?_ ?_ (fun _ _ h => by simp at h) (fun _ h => nomatch h) hclos rfl hcell hkind hnames hx List.nodup_nil hss
  · intro Z s1 k1 hZ
    exact ⟨[], rfl, List.nodup_nil, (fun a ha => nomatch ha), .nil⟩
  · rintro Z i ys s1 h' tk hZ ⟨as, rfl, nd, hn1, r⟩ hk
    exact ⟨as, rfl, nd, hn1, r.imp fun a ha b ⟨us, ⟨n, e⟩, i⟩ => ⟨us, ⟨n, hk _ _ (hn1 a ha).1 e⟩, i⟩⟩
  · rintro Z Cn i ys s3 hi hZ zex kx ⟨as, rfl, nd, hn1, r⟩ sat3 satI hlen
    have hi' : i < ms.length := by omega
    have hgd : ms.getD i [] = ms[i] := by simp [List.getD, hi']
    refine helt Cn _ s3 _ _ (by rw [hgd]; exact hzz _ (List.getElem_mem _)) satI fun s' D us k' hD pl ia => ⟨k'.kX, as ++ [D], by simp, ?_, ?_, ?_⟩
    · refine List.nodup_append.mpr ⟨nd, by simp, fun a ha b hb => ?_⟩
      rw [List.mem_singleton.mp hb]
      rintro rfl
      obtain ⟨j, hj⟩ := List.getElem?_of_mem ha
      obtain ⟨_, _, us', ⟨n', e'⟩, _⟩ := all2_at r j _ hj
      rw [hD] at e'; cases e'
    · intro a ha
      rcases List.mem_append.mp ha with ha | ha
      · exact hn1 a ha
      · rw [List.mem_singleton.mp ha]
        refine ⟨fun q => ?_, ?_⟩
        · obtain ⟨o, ho⟩ := zex D q
          rw [hD] at ho; cases ho
        · cases e : s.heap.get? D with
          | none => rfl
          | some o => have := kx.2 D o (List.not_mem_nil) e; rw [hD] at this; cases this
    · rw [List.take_add_one, List.getElem?_eq_getElem hi']
      refine All2.snoc (r.imp fun a ha b ⟨us, p, i⟩ => ⟨us, plain_ks k'.ks p, i⟩) ⟨us, pl, ?_⟩
      rw [← hgd]; exact ia
  · rintro Z D Cn m s5 ys hDC hZ hD hCn hNs pl hlen kx sat ⟨as, rfl, nd, hn1, r⟩ hDZ hCZ
    have hr : ms.take n = ms := by rw [← hn, List.take_length]
    rw [hr] at r
    refine ⟨m, hNs, fun h' sb => ?_⟩
    have hk : ∀ b o, s.heap.get? b = some o → h'.get? b = some o := fun b o e => sb.extBut b o (fun q => by rw [q, hCn] at e; cases e) (kx.2 b o List.not_mem_nil e)
    obtain ⟨⟨h5, t5, rfl⟩, hk5⟩ := kx
    have kp : Kp s { s with heap := h', toks := t5 } := ⟨h', t5, rfl, hk⟩
    refine hQ _ D as kp (hs.keeps kp) ?_ ?_
    · refine { outer := ?_, rows := r.imp fun a ha b ⟨us, ⟨n, e⟩, i⟩ => ⟨us, ⟨n, sb.extBut _ _ (fun q => (hn1 a ha).1 (by rw [q]; exact hCZ)) e⟩, i⟩, nd := nd, out := fun q => (hn1 D q).1 hDZ }
      obtain ⟨n', e⟩ := pl
      exact ⟨n', sb.extBut _ _ hDC e⟩
    · intro b hb
      rcases List.mem_cons.mp hb with rfl | hb
      · exact hD
      · exact (hn1 b hb).2
end
end Mine
end

section
set_option maxRecDepth 100000
namespace Mine
open PySem PySem.W PySem.Calls PyProof.Rows


noncomputable def swapM (m : List (List Int)) (r i : Nat) : List (List Int) := swapL m r i (m.getD r []) (m.getD i [])
/-- the elimination's state ahead of a step, none: a column had no pivot -/
noncomputable def detS (m : List (List Int)) (n : Nat) : Nat → Option (List (List Int) × Int × Int)
  | 0 => some (m, 1, 1)
  | i + 1 => match detS m n i with
    | none => none
    | some (m', sg, ah) => match pivotG m' i (n - i) i with
      | none => none
      | some r => some (bareissL (if r = i then m' else swapM m' r i) i ah, (if r = i then sg else -sg), at2 (bareissL (if r = i then m' else swapM m' r i) i ah) i i)
noncomputable def detL (m : List (List Int)) (n : Nat) : Int := match detS m n n with
  | none => 0
  | some (_, sg, ah) => sg * ah
theorem detS_none (m : List (List Int)) (n : Nat) {i : Nat} (h : detS m n i = none) : ∀ j, i ≤ j → detS m n j = none
  | 0, hj => by have : i = 0 := by omega
                subst this; exact h
  | j + 1, hj => by
    by_cases e : i = j + 1
    · subst e; exact h
    · rw [detS, detS_none m n h j (by omega)]
theorem all2_set2 {α β : Type} {R : α → β → Prop} {a : α} {b : β} (hr : R a b) : ∀ {l : List α} {l' : List β}, All2 R l l' → ∀ i, All2 R (l.set i a) (l'.set i b)
  | _, _, .nil, i => .nil
  | _, _, .cons h t, 0 => .cons hr t
  | _, _, .cons h t, i + 1 => .cons h (all2_set2 hr t i)
theorem nodup_swap3 {l : List Addr} (h : l.Nodup) (hl : l.length = 3) {i j : Nat} (hi : i < 3) (hj : j < 3) {a b : Addr} (ha : l[i]? = some a) (hb : l[j]? = some b) : (swapL l i j a b).Nodup ∧ ∀ x ∈ swapL l i j a b, x ∈ l := by
  obtain ⟨x, y, z, rfl⟩ : ∃ x y z, l = [x, y, z] := by
    match l, hl with
    | [x, y, z], _ => exact ⟨x, y, z, rfl⟩
  have hi' : i = 0 ∨ i = 1 ∨ i = 2 := by omega
  have hj' : j = 0 ∨ j = 1 ∨ j = 2 := by omega
  simp only [List.nodup_cons, List.mem_cons, List.not_mem_nil, or_false, not_or, List.nodup_nil, and_true, not_false_eq_true] at h
  obtain ⟨⟨h1, h2⟩, h3⟩ := h
  have h1' := Ne.symm h1
  have h2' := Ne.symm h2
  have h3' := Ne.symm h3
  rcases hi' with rfl | rfl | rfl <;> rcases hj' with rfl | rfl | rfl <;> simp at ha hb <;> subst ha <;> subst hb <;> simp [swapL, h1, h2, h3, h1', h2', h3']
theorem Sq.swap {m : List (List Int)} {n r i : Nat} (h : Sq n m) (hr : r < n) (hi : i < n) : Sq n (swapM m r i) := by
  refine ⟨by unfold swapM swapL; simp [h.1], fun x hx => ?_⟩
  unfold swapM swapL at hx
  rcases List.mem_or_eq_of_mem_set hx with hx | rfl
  · rcases List.mem_or_eq_of_mem_set hx with hx | rfl
    · exact h.2 x hx
    · exact h.row hi
  · exact h.row hr
theorem AllBd.swap {m : List (List Int)} {k r i : Nat} (h : AllBd k m) : AllBd k (swapM m r i) := by
  intro x y
  unfold swapM swapL at2
  by_cases e1 : i = x
  · subst e1
    by_cases hl : i < m.length
    · simp only [List.getD, List.getElem?_set, List.length_set, hl, if_true, Option.getD_some]
      exact h r y
    · simp [List.getD, List.getElem?_set, hl]
      exact Bd.zero
  · by_cases e2 : r = x
    · subst e2
      by_cases hl : r < m.length
      · simp only [List.getD, List.getElem?_set, e1, hl, if_true, if_false, Option.getD_some]
        exact h i y
      · simp [List.getD, List.getElem?_set, e1, hl]
        exact Bd.zero
    · simp only [List.getD, List.getElem?_set, e1, e2, if_false]
      exact h x y
theorem Mat.swap {h h' : Heap} {D a b : Addr} {as : List Addr} {m : List (List Int)} {r i : Nat} (M : Mat h D as m) (hl : as.length = 3) (hr : r < 3) (hi : i < 3) (ha : as[r]? = some a) (hb : as[i]? = some b)
    (hk : ∀ c o, c ≠ D → h.get? c = some o → h'.get? c = some o) (pl : h'.PlainList D ((swapL as r i a b).map Value.ref).toArray) : Mat h' D (swapL as r i a b) (swapM m r i) := by
  obtain ⟨nd, mem⟩ := nodup_swap3 M.nd hl hr hi ha hb
  have rows' : All2 (fun a xs => ∃ us : List Value, h'.PlainList a us.toArray ∧ IntsAre us xs) as m := M.rows.imp fun x hx b ⟨us, ⟨n, e⟩, i⟩ => ⟨us, ⟨n, hk _ _ (fun q => M.out (q ▸ hx)) e⟩, i⟩
  obtain ⟨xa, hxa, ra⟩ := all2_at rows' r a ha
  obtain ⟨xb, hxb, rb⟩ := all2_at rows' i b hb
  refine { outer := pl, rows := ?_, nd := nd, out := fun q => M.out (mem _ q) }
  unfold swapM swapL
  rw [show m.getD r [] = xa by simp [List.getD, hxa], show m.getD i [] = xb by simp [List.getD, hxb]]
  exact all2_set2 ra (all2_set2 rb rows' r) i

theorem at2_setM_ne (m : List (List Int)) {r c : Nat} (v : Int) {i : Nat} (h : r ≠ i) (j : Nat) : at2 (setM m r c v) i j = at2 m i j := by
  unfold at2 setM
  simp [List.getD, List.getElem?_set, h]
theorem colG_ne (m : List (List Int)) (step r : Nat) (lead first ahead : Int) {x : Nat} (h : r ≠ x) (y : Nat) : ∀ i, at2 (colG m step r lead first ahead i) x y = at2 m x y
  | 0 => rfl
  | i + 1 => by rw [colG, at2_setM_ne _ _ h, colG_ne m step r lead first ahead h y i]
theorem rowsG_ne (m : List (List Int)) (step : Nat) (lead ahead : Int) (n : Nat) {x : Nat} (h : x ≤ step) (y : Nat) : ∀ i, at2 (rowsG m step lead ahead n i) x y = at2 m x y
  | 0 => rfl
  | i + 1 => by rw [rowsG, at2_setM_ne _ _ (by omega), colG_ne _ _ _ _ _ _ (by omega), rowsG_ne m step lead ahead n h y i]
theorem pivotG_facts (m : List (List Int)) (step : Nat) : ∀ (k r p : Nat), pivotG m step k r = some p → r ≤ p ∧ p < r + k ∧ at2 m p step ≠ 0
  | 0, r, p, h => by cases h
  | k + 1, r, p, h => by
    rw [pivotG] at h
    split at h
    · next hc => cases h; exact ⟨Nat.le_refl _, by omega, by simpa using hc⟩
    · obtain ⟨h1, h2, h3⟩ := pivotG_facts m step k (r + 1) p h
      exact ⟨by omega, by omega, h3⟩
theorem at2_swap {m : List (List Int)} {n r i : Nat} (h : Sq n m) (hr : r < n) (hi : i < n) (y : Nat) : at2 (swapM m r i) i y = at2 m r y := by
  unfold swapM swapL at2
  have hl : i < m.length := by have := h.1; omega
  simp [List.getD, List.getElem?_set, hl]
noncomputable def growD (k n : Nat) : Nat → Nat
  | 0 => k
  | i + 1 => growR (growD k n i) (n - (i + 1)) (n - (i + 1))
theorem growD_le (k n : Nat) : ∀ i, k ≤ growD k n i
  | 0 => Nat.le_refl _
  | i + 1 => Nat.le_trans (growD_le k n i) (growR_le _ _ _)
theorem detS_facts {m : List (List Int)} {n k : Nat} (h : Sq n m) (hb : AllBd k m) : ∀ i m' sg ah, i ≤ n → detS m n i = some (m', sg, ah) → Sq n m' ∧ AllBd (growD k n i) m' ∧ ah ≠ 0 ∧ Bd (growD k n i) ah
  | 0, m', sg, ah, _, e => by cases e; exact ⟨h, hb, by decide, Nat.one_le_two_pow⟩
  | i + 1, m', sg, ah, hi, e => by
    rw [detS] at e
    cases h0 : detS m n i with
    | none => rw [h0] at e; cases e
    | some z =>
      obtain ⟨m0, sg0, ah0⟩ := z
      obtain ⟨q1, q2, q3, q4⟩ := detS_facts h hb i m0 sg0 ah0 (by omega) h0
      rw [h0] at e
      simp only at e
      cases hp : pivotG m0 i (n - i) i with
      | none => rw [hp] at e; cases e
      | some r =>
        rw [hp] at e
        simp only [Option.some.injEq, Prod.mk.injEq] at e
        obtain ⟨rfl, rfl, rfl⟩ := e
        obtain ⟨p1, p2, p3⟩ := pivotG_facts m0 i _ _ _ hp
        have sqs : Sq n (if r = i then m0 else swapM m0 r i) := by
          split
          · exact q1
          · exact q1.swap (by omega) (by omega)
        have bds : AllBd (growD k n i) (if r = i then m0 else swapM m0 r i) := by
          split
          · exact q2
          · exact q2.swap
        have hat : at2 (if r = i then m0 else swapM m0 r i) i i ≠ 0 := by
          split
          · next e => subst e; exact p3
          · rw [at2_swap q1 (by omega) (by omega)]; exact p3
        generalize (if r = i then m0 else swapM m0 r i) = m1 at *
        have hf := rowsG_facts (step := i) (ahead := ah0) sqs bds (bds i i) (n - (i + 1)) (by omega)
        have e1 : bareissL m1 i ah0 = rowsG m1 i (at2 m1 i i) ah0 n (n - (i + 1)) := by unfold bareissL; rw [sqs.1]
        rw [e1, growD]
        refine ⟨hf.1, hf.2, ?_, hf.2 i i⟩
        rw [rowsG_ne _ _ _ _ _ (Nat.le_refl _)]; exact hat
end Mine
end

section
set_option maxRecDepth 100000
namespace Mine
open PySem PySem.W PySem.Calls PyProof.Rows


section
variable {C : Act} {ρ : Loc}
theorem call_raw {f : Str} {a : Addr} {es : List Expr} {p q : Pos} {as : List AV} {s : Shared} {Q : Value → Shared → Prop} (hg : Gf f a) (hf : IsFn a) (args : Evs C ρ es as) (hs : Sat C ρ s) (h : ∀ vs s1, Kp s s1 → All2 (Rep s1.heap) vs as → wpAny (model pg C.w) C.A (call (.ref a) vs) Q nE s1)
    (hg' : C.env.kindOf f = some .globalImplicit := by rfl) (hd : (f == ("__debug__" : Str)) = false := by decide) : wpAny (model pg C.w) C.A (eval (.Call (.Name f p) es [] q) C.env) Q nE s := by
  refine wpAny_Call_NameR (ev_global hg hs hg' hd ?_)
  obtain ⟨o, fd, e1, e2⟩ := hf C.w
  exact callWith_function (o := o) (fd := fd) (args.args hs fun vs s1 k1 r1 => ⟨⟨(hs.keeps k1).top.X _ _ e1, e2⟩, h vs s1 k1 r1⟩)
theorem Sat.kx {X : List Addr} {s s' : Shared} (hs : Sat C ρ s) (hf : Flat ρ) (k : Kx X s s') (hX : ∀ b ∈ X, C.s₀.heap.get? b = none ∧ b ≠ C.env.locals ∧ ∀ y ∈ C.env.cells, y.2 ≠ b) : Sat C ρ s' := by
  obtain ⟨⟨h, tk, rfl⟩, hk⟩ := k
  exact hs.bumpF hf (wr := X) hk hX
theorem Kx.kx {X : List Addr} {s s' : Shared} (k : Kx X s s') : KX C X s s' := ⟨k.1, fun b o _ _ n e => k.2 b o n e⟩
theorem exec_mid {st : Stmt} {rest : List Stmt} {s : Shared} {Q : Flow → Shared → Prop} (hs : Sat C ρ s) (Pm : Act → Shared → Prop) (h : wpAny (model pg C.w) C.A (exec st C.env) (fun fl s7 => fl = .next ∧ Pm C s7) nE s) (k : ∀ s7, Pm C s7 → wpAny (model pg C.w) C.A (execs rest C.env) Q nE s7) :
    wpAny (model pg C.w) C.A (execs (st :: rest) C.env) Q nE s :=
  wpAny_execs_cons (wpAny_mono h (fun fl s7 h7 => by obtain ⟨rfl, h7⟩ := h7; exact k s7 h7) fun _ _ e => e)
end
noncomputable def sgS (m : List (List Int)) (i : Nat) : Int := match detS m 3 i with | some (_, sg, _) => sg | none => 1
noncomputable def ahS (m : List (List Int)) (i : Nat) : Int := match detS m 3 i with | some (_, _, ah) => ah | none => 1
theorem sgS_of {m m' : List (List Int)} {i : Nat} {sg ah : Int} (h : detS m 3 i = some (m', sg, ah)) : sgS m i = sg ∧ ahS m i = ah := by
  unfold sgS ahS; rw [h]; exact ⟨rfl, rfl⟩
theorem detS_sign {m : List (List Int)} {n : Nat} : ∀ i m' sg ah, detS m n i = some (m', sg, ah) → sg.natAbs = 1
  | 0, m', sg, ah, e => by cases e; rfl
  | i + 1, m', sg, ah, e => by
    rw [detS] at e
    cases h0 : detS m n i with
    | none => rw [h0] at e; cases e
    | some z =>
      obtain ⟨m0, sg0, ah0⟩ := z
      have ih := detS_sign i m0 sg0 ah0 h0
      rw [h0] at e
      simp only at e
      cases hp : pivotG m0 i (n - i) i with
      | none => rw [hp] at e; cases e
      | some r =>
        rw [hp] at e
        simp only [Option.some.injEq, Prod.mk.injEq] at e
        obtain ⟨_, rfl, _⟩ := e
        split
        · exact ih
        · rw [Int.natAbs_neg]; exact ih
theorem c_determinant {m : List (List Int)} (sq : Sq 3 m) (hb : AllBd 20 m) : Fn 3 53 [.b (.zss m)] (.b (.int (detL m 3))) := by
  refine Fn.enter ["a"] (fun w => by walk_at "ent") (fun w => by walk_at "entc") (bind1 fun v => by rfl) (by rfl) (by decide) rfl ?_
  intro w A L s₀ ok
  have hml := sq.1
  refine Ex.ifelse (Tr.cmp (Ev.compF _ [("a", .b (.zss m))] (Src.rows Ev.name) (by omega) (fun Cn s i hi => ?_) (by walk_at "sub") ?_) (Ev.listI (xs := []) .nil) Cmp.neL) (fun hc => by simp at hc) (fun hc => Ex.nil ?_)
  · have hl : m.getD i [] ∈ m := by simp [List.getD, hi]
    have := sq.2 _ hl
    have hdec : (((m.getD i []).length : Int) != (m.length : Int)) = false := by rw [this, hml]; rfl
    exact hdec ▸ Tr.cmp (Ev.callB gb_len (Evs.cons Ev.name .nil) (Bn.len (by omega))) (Ev.callB gb_len (Evs.cons Ev.name .nil) (Bn.lenR (by omega))) Cmp.ne
  · exact fun y hy => by simpa [callEnvC, newEnv, cellsFrom] using hy
  intro s Q hs hQ
  have s0none : ∀ b, s.heap.get? b = none → s₀.heap.get? b = none := fun b hb => by
    cases e : s₀.heap.get? b with
    | none => rfl
    | some o => have := hs.keep b o e; rw [hb] at this; cases this
  obtain ⟨pa, rpa, satp⟩ := hs.downR (x := "a") (a := .zss m) rfl (fun h v r => by obtain ⟨p, _, e, _⟩ := r; exact ⟨p, e⟩)
  have satf : Sat _ [("a", .b (.ref pa))] s := satp.weaken (by walk_at "sub")
  refine wpAny_execs_cons (assignTs_raw (xs := ["found", "sign", "ahead"]) (tup3_raw (m := 1) (n := 1) (copy_rows (ms := m) satf rfl ((Src.rows Ev.name).now hs) rfl (by omega) (fun r hr => by have := sq.2 r hr; omega) ?_ (fun s1 D as k1 sat1 M hnew => ⟨D, rfl, sat1, fun v' s2 k2 rep => ⟨_, rfl, sat1.keeps k2, rep, fun s3 k3 sat3 => ?_⟩⟩) (by with_unfolding_all rfl) (by decide) rfl (by decide) rfl (by intro _; rfl)) Ev.int Ev.int) (by walk_at "kd3"))
  · intro Cn s₀' s3 xs Q' hxl sat3 hQ'
    exact list_new gb_list (Evs.cons Ev.name .nil) sat3 (by omega) hQ'
  have M3 := (M.ks k2.ks).kf (sat1.keeps k2) k3
  have kx3 := ((k1.trans k2).kx (C := _) (X := D :: as)).trans k3.kx
  have hlen : ((m.length : Int)).toNat = 3 := by omega
  have hDs := s0none D (hnew D List.mem_cons_self)
  have hass : ∀ a ∈ as, s₀.heap.get? a = none := fun a ha => s0none a (hnew a (List.mem_cons_of_mem _ ha))
  refine wpAny_execs_cons (forS (ρs := fun i => [("a", .b (.ref pa)), ("found", .b (.ref D)), ("sign", .b (.int (sgS m i))), ("ahead", .b (.int (ahS m i)))]) (D :: as)
    (fun i s' => ∃ as' m', detS m 3 i = some (m', sgS m i, ahS m i) ∧ Mat s'.heap D as' m' ∧ ∀ a ∈ as', a ∈ as) (sat3.weaken (by walk_at "sub")) (fun _ => rfl)
    (SrcNow.range1 gb_range (Evs.cons (Ev.callB gb_len (Evs.cons Ev.name .nil) (Bn.lenR (by omega))) .nil) (sat3.up (x := "a") (a := pa) (b := .b (.zss m)) rfl ((RR.ks (k1.trans k2).ks rpa).ks ((sat1.keeps k2).ks k3))) (by omega)) (fun b hb => M3.seqs b hb) (fun _ => rfl) (fun s4 k4 => ⟨as, m, rfl, M3.ks k4.ks, fun _ h => h⟩) ?_ ?_ ?_ (Or.inl rfl) (by intro _; rfl))
  · rintro I i s4 h' tk hI ⟨as', m', hd, M', hsub⟩ kx hk
    refine ⟨as', m', hd, M'.keep fun b o hb e => ?_, hsub⟩
    have hb' : b ∈ D :: as := by
      rcases List.mem_cons.mp hb with rfl | hb
      · exact List.mem_cons_self
      · exact List.mem_cons_of_mem _ (hsub b hb)
    obtain ⟨vs, k, o', e', _⟩ := M3.seqs b hb'
    have off := M3.off sat3 b hb'
    exact hk b o (fun q => by rw [q, hI] at e'; cases e') off.1 off.2 e
  · rintro i s4 hi ⟨as', m', hd, M4, hsub⟩ sat4 kx4
    rw [hlen] at hi
    obtain ⟨sq', bd', ah0, ahb⟩ := detS_facts sq hb i m' _ _ (by omega) hd
    have hml' := sq'.1
    have hal' := M4.len
    have hoffX := M3.off sat3
    have e3 : (3 : Nat) - i = m'.length - i := by omega
    refine assignZ (Ev.call gf_pivot_row if_pivot_row (Evs.cons Ev.name (Evs.cons Ev.name .nil)) (c_pivot_row (m := m') (step := i) (by omega) (by omega) (fun r hr => by have := sq'.2 r hr; omega))) (sat4.upM (x := "found") M4 rfl) sat4 fun s5 k5 sat5 => ?_
    rw [← e3] at sat5
    have M5 := M4.kf sat4 k5
    cases hp : pivotG m' i (3 - i) i with
    | none =>
      rw [hp] at sat5
      refine wpAny_execs_cons (wpAny_If (Tr.run (Tr.cmp Ev.name Ev.none Cmp.isNoneNone) sat5 fun s6 k6 => ?_))
      simp only [if_true]
      refine wpAny_execs_cons (wpAny_Return_some (Ev.run Ev.int (sat5.keeps k6) fun v s7 k7 r7 => ?_))
      refine hQ (.ret (.b (.int (detL m 3)))) _ s7 rfl (KX.kf (((kx3.trans kx4).trans k5.kx).trans (k6.trans k7).kx) hnew) ⟨v, rfl, ⟨_, (sat5.keeps k6).keeps k7⟩, ?_⟩
      have : detL m 3 = 0 := by
        have hn : detS m 3 (i + 1) = none := by rw [detS, hd]; simp only; rw [hp]
        unfold detL
        rw [detS_none m 3 hn 3 (by omega)]
      rw [this]; exact r7
    | some r =>
      rw [hp] at sat5
      obtain ⟨p1, p2, p3⟩ := pivotG_facts m' i _ _ _ hp
      refine wpAny_execs_cons (wpAny_If (Tr.run (Tr.cmp Ev.name Ev.none Cmp.isNoneInt) sat5 fun s6 k6 => ?_))
      simp only [Bool.false_eq_true, if_false]
      refine wpAny_execs_nil ?_
      have sat6 := sat5.keeps k6
      have M6 := M5.ks k6.ks
      have kx6 := k5.kx.trans (k6.kx (C := _) (X := D :: as))
      have hri : r < 3 ∧ i < 3 := ⟨by omega, hi⟩
      refine exec_mid sat6 (fun C s7 => ∃ as1 m1 sg1, m1 = (if r = i then m' else swapM m' r i) ∧ sg1 = (if r = i then sgS m i else -sgS m i) ∧ Mat s7.heap D as1 m1 ∧ (∀ a ∈ as1, a ∈ as) ∧ KX C (D :: as) s4 s7 ∧
        Sat C [("a", .b (.ref pa)), ("found", .b (.ref D)), ("sign", .b (.int sg1)), ("ahead", .b (.int (ahS m i))), ("step", .b (.int i))] s7) (wpAny_If (Tr.run (Tr.cmp Ev.name Ev.name Cmp.ne) sat6 fun s7 k7 => ?_)) (fun s7 h7 => ?_)
      · have sat7 := sat6.keeps k7
        have M7 := M6.ks k7.ks
        have kx7 := kx6.trans k7.kx
        by_cases hre : r = i
        · have hb' : ((r : Int) != (i : Int)) = false := by subst hre; simp
          rw [hb']
          simp only [Bool.false_eq_true, if_false]
          refine wpAny_execs_nil ⟨rfl, as', m', sgS m i, by rw [if_pos hre], by rw [if_pos hre], M7, hsub, kx7, sat7.weaken (by walk_at "sub")⟩
        · have hb' : ((r : Int) != (i : Int)) = true := by simp; omega
          rw [hb']
          simp only [if_true]
          have hl3 : as'.length = 3 := by omega
          have hra : as'[r]? = some as'[r] := by simp
          have hia : as'[i]? = some as'[i] := by simp
          refine wpAny_execs_cons (swapP (D :: as) ?_ Ev.name Ev.name Ev.name Ev.name Ev.name Ev.name Ev.name Ev.name sat7 M7 List.mem_cons_self hDs (by omega) (by rw [Int.toNat_natCast]; exact hra) (by omega) (by rw [Int.toNat_natCast]; exact hia) (by omega) fun s8 sat8 kx8 hk8 pl8 => ?_)
          · rfl
          rw [Int.toNat_natCast, Int.toNat_natCast] at pl8
          have M8 := M7.swap hl3 hri.1 hri.2 hra hia hk8 pl8
          refine Ex1.stepR (Ex1.assign (Ev.neg Ev.name)) sat8 fun s9 k9 sat9 => ?_
          refine wpAny_execs_nil ⟨rfl, _, swapM m' r i, -sgS m i, by rw [if_neg hre], by rw [if_neg hre], M8.kf sat8 k9, ?_, (kx7.trans kx8).trans k9.kx, sat9.weaken (by walk_at "sub")⟩
          intro a ha
          exact hsub a ((nodup_swap3 M7.nd hl3 hri.1 hri.2 hra hia).2 a ha)
      · obtain ⟨as1, m1, sg1, e1, e2, M7, hsub1, kx7, sat7⟩ := h7
        have sqs : Sq 3 m1 := by
          rw [e1]; split
          · exact sq'
          · exact sq'.swap (by omega) (by omega)
        have bds : AllBd (growD 20 3 i) m1 := by
          rw [e1]; split
          · exact bd'
          · exact bd'.swap
        have hd1 : detS m 3 (i + 1) = some (bareissL m1 i (ahS m i), sg1, at2 (bareissL m1 i (ahS m i)) i i) := by
          rw [detS, hd]; simp only; rw [hp]; simp only; rw [← e1, ← e2]
        have hgr : growR (growD 20 3 i) (3 - (i + 1)) (3 - (i + 1)) ≤ 1500 := by
          have hi3 : i = 0 ∨ i = 1 ∨ i = 2 := by omega
          rcases hi3 with rfl | rfl | rfl <;> decide
        refine wpAny_execs_cons (wpAny_Expr (call_raw gf_bareiss_step if_bareiss_step (Evs.cons Ev.name (Evs.cons Ev.name (Evs.cons Ev.name .nil))) sat7 fun vs s8 k8 r8 => ?_) rfl rfl)
        have sat8 := sat7.keeps k8
        have M8 := M7.ks k8.ks
        refine call_bareiss s₀.heap sat8.keep ok.top (ok.toRoom) r8 M8 (fun a ha => hass a (hsub1 a ha)) sqs (by omega) hi bds ah0 ahb hgr fun s9 kx9 M9 => ?_
        have kx9' : Kx (D :: as) s8 s9 := ⟨kx9.1, fun b o hb e => kx9.2 b o (fun q => hb (List.mem_cons_of_mem _ (hsub1 b q))) e⟩
        have sat9 := sat8.kx rfl kx9 fun b hb => ⟨hass b (hsub1 b hb), (M8.off sat8 b (List.mem_cons_of_mem _ hb)).1, (M8.off sat8 b (List.mem_cons_of_mem _ hb)).2⟩
        obtain ⟨sqn, bdn, ahn, ahbn⟩ := detS_facts sq hb (i + 1) _ _ _ (by omega) hd1
        refine assignZ (Ev.cell (n := 3) Ev.name Ev.name Ev.name sqn (by omega) (by omega) (by omega) (by omega) (by omega)) (sat9.upM (x := "found") M9 rfl) sat9 fun s10 k10 sat10 => ?_
        rw [Int.toNat_natCast] at sat10
        have es : sgS m (i + 1) = sg1 := (sgS_of hd1).1
        have ea : ahS m (i + 1) = at2 (bareissL m1 i (ahS m i)) i i := (sgS_of hd1).2
        refine wpAny_execs_nil ⟨?_, ((kx7.trans k8.kx).trans kx9'.kx).trans k10.kx, as1, bareissL m1 i (ahS m i), ?_, M9.kf sat9 k10, hsub1⟩
        · show Sat _ [_, _, ("sign", .b (.int (sgS m (i + 1)))), ("ahead", .b (.int (ahS m (i + 1))))] _
          rw [es, ea]
          exact sat10.weaken (by walk_at "sub")
        · rw [es, ea]; exact hd1
  · rintro s5 sat5 kx5 ⟨as', m', hd, M5, hsub⟩
    rw [hlen] at hd
    have sat5' := sat5
    rw [hlen] at sat5'
    obtain ⟨sq', bd', ah0, ahb⟩ := detS_facts sq hb 3 m' _ _ (by omega) hd
    have B1 : Sm (sgS m 3) := Sm.small (by rw [detS_sign 3 _ _ _ hd]; decide)
    have B2 : Sm (ahS m 3) := ahb.sm (by decide)
    refine wpAny_execs_cons (wpAny_Return_some (Ev.run (Ev.mul Ev.name Ev.name B1 B2) sat5' fun v s7 k7 r7 => ?_))
    refine hQ (.ret (.b (.int (detL m 3)))) _ s7 rfl (KX.kf ((kx3.trans kx5).trans k7.kx) hnew) ⟨v, rfl, ⟨_, sat5'.keeps k7⟩, ?_⟩
    have : detL m 3 = sgS m 3 * ahS m 3 := by unfold detL; rw [hd]
    rw [this]; exact r7
end Mine
end

section
set_option maxRecDepth 100000
namespace Mine
open PySem PySem.W PySem.Calls PyProof.Rows


section
variable {C : Act}
theorem Cmp.eqB {a b : Bool} : Cmp C .Eq (.b (.bool a)) (.b (.bool b)) (a == b) := fun s u v Q _ r1 r2 hQ => by
  cases r1; cases r2; exact PyProof.Rows.eq_bool (hQ s Kp.rfl')
end
noncomputable def hankelL (f : List Int) : List (List Int) :=
  [[12 * f.getD 4 0, 3 * f.getD 3 0, 2 * f.getD 2 0], [3 * f.getD 3 0, 2 * f.getD 2 0, 3 * f.getD 1 0], [2 * f.getD 2 0, 3 * f.getD 1 0, 12 * f.getD 0 0]]
theorem c_alone_right {f G : List Int} {one other V : Int} {k : Nat} (hl : f.length ≤ 5) (nb : Nb k f) (hk : k ≤ 16) (h1 : Bd 100 one) (h2 : Bd 100 other)
    (hdet : detL (hankelL f) 3 = 4 * other) (hdisc : 3 < f.length → Fn 8 207 [.b (.zs f)] (.b (.int V))) (sV : Sm V) (sVb : Sm (V * f.getD 3 0))
    (htold : 27 * (if 3 < f.length then (if f.length = 5 then V else V * f.getD 3 0 * f.getD 3 0) else 0) = 4 * one ^ 3 - other ^ 2) (stold : Sm (if 3 < f.length then (if f.length = 5 then V else V * f.getD 3 0 * f.getD 3 0) else 0))
    (hgcd : ¬ f.length < 3 → Fn 8 235 [.b (.zss [f, deriveL f, deriveL (deriveL f)])] (.b (.zs G))) (hG : G.length ≤ 100)
    (hcube : (decide (f.length < 3) || decide (1 < G.length)) = (one == 0 && other == 0)) : Fn 9 277 [.b (.zs f), .b (.int one), .b (.int other)] (.b (.bool true)) := by
  refine Fn.enter ["f", "one", "other"] (fun w => by walk_at "ent") (fun w => by walk_at "entc") (bind3 fun v u t => by rfl) (by rfl) (by decide) rfl ?_
  intro w A L s₀ ok
  have B : ∀ i, Bd k (f.getD i 0) := fun i => nb.get i
  have hld := deriveL_length f
  have sf : SmL f := SmL.ofNb nb (by omega)
  have sd : SmL (deriveL f) := SmL.ofNb (nb.derive (l := 5) (by omega)) (by omega)
  refine Ex.step (Ex1.assignL (xs := ["e", "d", "c", "b", "a"]) (ns := padL f) ?_ isNames5 (by walk_at "kd5") rfl) ?_
  · have e : padL f = f ++ (List.replicate ((5 - (f.length : Int))).toNat [(0 : Int)]).flatten := by
      rw [flat_rep, ← padL_eq hl]
      congr 2
      omega
    rw [e]
    exact Ev.cat Ev.name (Ev.rep (Ev.listI (xs := [0]) (Evs.cons Ev.int .nil)) (Ev.sub Ev.int (Ev.callB gb_len (Evs.cons Ev.name .nil) (Bn.len (by omega)))) (by omega) (by omega) (by decide)) (by rw [flat_rep]; simp; omega)
  have Be := B 0
  have Bdd := B 1
  have Bc := B 2
  have Bb := B 3
  have Ba := B 4
  have b12 : Bd 4 12 := (by decide : 12 ≤ 2 ^ 4)
  have b3 : Bd 4 3 := (by decide : 3 ≤ 2 ^ 4)
  have b2 : Bd 4 2 := (by decide : 2 ≤ 2 ^ 4)
  have b27 : Bd 5 27 := (by decide : 27 ≤ 2 ^ 5)
  have b4 : Bd 5 4 := (by decide : 4 ≤ 2 ^ 5)
  have hsq : Sq 3 (hankelL f) := ⟨rfl, by intro r hr; unfold hankelL at hr; simp at hr; rcases hr with rfl | rfl | rfl <;> rfl⟩
  have hbd : AllBd 20 (hankelL f) := by
    intro r c
    have z : Bd 20 0 := Bd.zero
    have q4 := (b12.mul Ba).le (by omega : 4 + k ≤ 20)
    have q3 := (b3.mul Bb).le (by omega : 4 + k ≤ 20)
    have q2 := (b2.mul Bc).le (by omega : 4 + k ≤ 20)
    have q1 := (b3.mul Bdd).le (by omega : 4 + k ≤ 20)
    have q0 := (b12.mul Be).le (by omega : 4 + k ≤ 20)
    match r, c with
    | 0, 0 => exact q4
    | 0, 1 => exact q3
    | 0, 2 => exact q2
    | 1, 0 => exact q3
    | 1, 1 => exact q2
    | 1, 2 => exact q1
    | 2, 0 => exact q2
    | 2, 1 => exact q1
    | 2, 2 => exact q0
    | 0, c + 3 => exact z
    | 1, c + 3 => exact z
    | 2, c + 3 => exact z
    | r + 3, c => exact z
  have cdet := c_determinant hsq hbd
  unfold padL
  refine Ex.ifelse (Tr.cmp (Ev.call gf_determinant if_determinant (Evs.cons (Ev.listR (xs := hankelL f) (Evs.cons (Ev.listI (xs := [12 * f.getD 4 0, 3 * f.getD 3 0, 2 * f.getD 2 0]) (Evs.cons (Ev.mul Ev.int Ev.name (b12.sm (by omega)) (Ba.sm (by omega))) (Evs.cons (Ev.mul Ev.int Ev.name (b3.sm (by omega)) (Bb.sm (by omega))) (Evs.cons (Ev.mul Ev.int Ev.name (b2.sm (by omega)) (Bc.sm (by omega))) .nil))))
    (Evs.cons (Ev.listI (xs := [3 * f.getD 3 0, 2 * f.getD 2 0, 3 * f.getD 1 0]) (Evs.cons (Ev.mul Ev.int Ev.name (b3.sm (by omega)) (Bb.sm (by omega))) (Evs.cons (Ev.mul Ev.int Ev.name (b2.sm (by omega)) (Bc.sm (by omega))) (Evs.cons (Ev.mul Ev.int Ev.name (b3.sm (by omega)) (Bdd.sm (by omega))) .nil))))
    (Evs.cons (Ev.listI (xs := [2 * f.getD 2 0, 3 * f.getD 1 0, 12 * f.getD 0 0]) (Evs.cons (Ev.mul Ev.int Ev.name (b2.sm (by omega)) (Bc.sm (by omega))) (Evs.cons (Ev.mul Ev.int Ev.name (b3.sm (by omega)) (Bdd.sm (by omega))) (Evs.cons (Ev.mul Ev.int Ev.name (b12.sm (by omega)) (Be.sm (by omega))) .nil)))) .nil)))) .nil) cdet) (Ev.mul Ev.int Ev.name (b4.sm (by omega)) (h2.sm (by omega))) Cmp.ne) (fun hc => ?_) (fun _ => Ex.nil ?_)
  · exfalso; rw [hdet] at hc; simp at hc
  refine Ex.step (Ex1.assign Ev.int) ?_
  generalize htd : (if 3 < f.length then (if f.length = 5 then V else V * f.getD 3 0 * f.getD 3 0) else 0) = told at *
  refine Ex.cons (K₁ := fun o => ∃ ρ', o = .next ρ' ∧ Sub [("f", .b (.zs f)), ("one", .b (.int one)), ("other", .b (.int other)), ("told", .b (.int told))] ρ')
    (Ex1.ite (Tr.cmp (Ev.callB gb_len (Evs.cons Ev.name .nil) (Bn.len (by omega))) Ev.int Cmp.gt) (fun hc => ?_) (fun hc => ?_)) (fun ρ' hρ => ?_) (fun a h => by obtain ⟨_, h, _⟩ := h; cases h)
  · have hc' : 3 < f.length := by have : (3 : Int) < f.length := by simpa using hc
                                  omega
    rw [if_pos hc'] at htd
    have cd := hdisc hc'
    by_cases h5 : f.length = 5
    · rw [if_pos h5] at htd
      subst htd
      have hdec : ((f.length : Int) == 5) = true := by simp; omega
      exact Ex.step (Ex1.assign (Ev.ifi (b := true) (m := V) (n := 0) (hdec ▸ Tr.cmp (Ev.callB gb_len (Evs.cons Ev.name .nil) (Bn.len (by omega))) Ev.int Cmp.eq) (fun _ => Ev.call gf_discriminant if_discriminant (Evs.cons Ev.name .nil) cd) fun hh => by cases hh)) (Ex.nil ⟨_, rfl, by walk_at "sub"⟩)
    · rw [if_neg h5] at htd
      subst htd
      have hdec : ((f.length : Int) == 5) = false := by simp; omega
      exact Ex.step (Ex1.assign (Ev.ifi (b := false) (m := 0) (n := V * f.getD 3 0 * f.getD 3 0) (hdec ▸ Tr.cmp (Ev.callB gb_len (Evs.cons Ev.name .nil) (Bn.len (by omega))) Ev.int Cmp.eq) (fun hh => by cases hh) fun _ => Ev.mul (Ev.mul (Ev.call gf_discriminant if_discriminant (Evs.cons Ev.name .nil) cd) Ev.name sV (Bb.sm (by omega))) Ev.name sVb (Bb.sm (by omega)))) (Ex.nil ⟨_, rfl, by walk_at "sub"⟩)
  · have hc' : ¬ 3 < f.length := by have : ¬ (3 : Int) < f.length := by simpa using hc
                                    omega
    rw [if_neg hc'] at htd
    subst htd
    exact Ex.nil ⟨_, rfl, by walk_at "sub"⟩
  obtain ⟨ρ'', e, hs⟩ := hρ
  cases e
  refine Ex.sub ?_ hs
  refine Ex.ifelse (Tr.cmp (Ev.mul Ev.int Ev.name (b27.sm (by omega)) stold) (Ev.sub (Ev.mul Ev.int (Ev.pow Ev.name Ev.int (h1.sm (by omega)) (by decide) (by decide)) (b4.sm (by omega)) ((h1.pow 3).sm (by omega))) (Ev.pow Ev.name Ev.int (h2.sm (by omega)) (by decide) (by decide))) Cmp.ne) (fun hc => ?_) (fun _ => Ex.nil ?_)
  · exfalso
    have : (27 * told != 4 * one ^ 3 - other ^ 2) = true := hc
    rw [htold] at this
    simp at this
  refine Ex.step (Ex1.assign (a := .b (.bool (decide (f.length < 3) || decide (1 < G.length)))) ?_) ?_
  · by_cases hl3 : f.length < 3
    · have e1 : (decide (f.length < 3) || decide (1 < G.length)) = (decide ((f.length : Int) < 3) || true) := by simp [hl3]
      rw [e1]
      exact Ev.or (Ev.cmp (Ev.callB gb_len (Evs.cons Ev.name .nil) (Bn.len (by omega))) Ev.int Cmp.lt) (fun hh => by exfalso; simp at hh; omega)
    · have e1 : (decide (f.length < 3) || decide (1 < G.length)) = (decide ((f.length : Int) < 3) || decide ((1 : Int) < (G.length : Int))) := by
        congr 1 <;> rw [Bool.eq_iff_iff, decide_eq_true_eq, decide_eq_true_eq] <;> omega
      rw [e1]
      exact Ev.or (Ev.cmp (Ev.callB gb_len (Evs.cons Ev.name .nil) (Bn.len (by omega))) Ev.int Cmp.lt) (fun hh => Ev.cmp (Ev.callB gb_len (Evs.cons (Ev.call gf_zgcd_all if_zgcd_all (Evs.cons (Ev.listR (xs := [f, deriveL f, deriveL (deriveL f)]) (Evs.cons Ev.name (Evs.cons (Ev.call gf_zderive if_zderive (Evs.cons Ev.name .nil) (c_zderive (by omega) sf)) (Evs.cons (Ev.call gf_zderive if_zderive (Evs.cons (Ev.call gf_zderive if_zderive (Evs.cons Ev.name .nil) (c_zderive (by omega) sf)) .nil) (c_zderive (by omega) sd)) .nil)))) .nil) (hgcd hl3)) .nil) (Bn.len (by omega))) Ev.int Cmp.gt)
  · refine Ex.ret (Ev.cmp Ev.name (Ev.and (Ev.cmp Ev.name Ev.int Cmp.eq) fun _ => Ev.cmp Ev.name Ev.int Cmp.eq) Cmp.eqB) ?_
    show AV.b (.bool _) = AV.b (.bool _)
    rw [hcube]
    simp
end Mine
end

section
namespace Mine
open PySem PySem.W PySem.Calls PyProof.Rows

section
variable {C : Act} {ρ : Loc}
theorem Ev.pool0 {e i : Expr} {p : Pos} {xs : List Int} {k : Int} (h1 : Ev C ρ e (.b (.pool xs k))) (h2 : Ev C ρ i (.b (.int 0)))
    (hs : ∀ a t, subscripted i false (.ref a) (.int 0 t) = operate [.ref a, .int 0 t] (getItem (.ref a) (.int 0 t)) := by with_unfolding_all (intro _ _; rfl)) : Ev C ρ (.Subscript e i p) (.b (.zs xs)) :=
  Ev.sub_ h1 h2 fun s u v Q r1 r2 hQ => by
    obtain ⟨P, S, t0, us, rfl, p1, p2, ia⟩ := r1; obtain ⟨t, rfl⟩ := r2
    exact tail_any p1.isList.typeIs slot_list_getitem.lookup (wpAny_getItem_list p1.isList (by decide) (by decide) (by rfl) (hQ _ _ Kp.rfl' ⟨S, us, rfl, p2, ia⟩)) (hs P t)
theorem Ev.pool1 {e i : Expr} {p : Pos} {xs : List Int} {k : Int} (h1 : Ev C ρ e (.b (.pool xs k))) (h2 : Ev C ρ i (.b (.int 1)))
    (hs : ∀ a t, subscripted i false (.ref a) (.int 1 t) = operate [.ref a, .int 1 t] (getItem (.ref a) (.int 1 t)) := by with_unfolding_all (intro _ _; rfl)) : Ev C ρ (.Subscript e i p) (.b (.int k)) :=
  Ev.sub_ h1 h2 fun s u v Q r1 r2 hQ => by
    obtain ⟨P, S, t0, us, rfl, p1, p2, ia⟩ := r1; obtain ⟨t, rfl⟩ := r2
    exact tail_any p1.isList.typeIs slot_list_getitem.lookup (wpAny_getItem_list p1.isList (by decide) (by decide) (by rfl) (hQ _ _ Kp.rfl' ⟨t0, rfl⟩)) (hs P t)
/-- the pool by its place -/
noncomputable def PoolAt (h : Heap) (P S : Addr) (xs : List Int) (k : Int) : Prop := ∃ (t : Tok) (us : List Value), h.PlainList P [Value.ref S, .int k t].toArray ∧ h.PlainList S us.toArray ∧ IntsAre us xs
theorem PoolAt.r0 {h : Heap} {P S : Addr} {xs : List Int} {k : Int} (x : PoolAt h P S xs k) : R0 h (.ref P) (.pool xs k) := let ⟨t, us, p1, p2, i⟩ := x; ⟨P, S, t, us, rfl, p1, p2, i⟩
theorem PoolAt.ks {h h' : Heap} {P S : Addr} {xs : List Int} {k : Int} (j : KS h h') (x : PoolAt h P S xs k) : PoolAt h' P S xs k := let ⟨t, us, p1, p2, i⟩ := x; ⟨t, us, plain_ks j p1, plain_ks j p2, i⟩
theorem PoolAt.seq {h : Heap} {P S : Addr} {xs : List Int} {k : Int} (x : PoolAt h P S xs k) : ∃ vs n, ∃ o, h.get? P = some o ∧ o.data = .seq vs n := by
  obtain ⟨t0, us, ⟨n, p1⟩, p2, ia⟩ := x
  exact ⟨_, _, _, p1, rfl⟩
theorem PoolAt.off {s : Shared} {P S : Addr} {xs : List Int} {k : Int} (hs : Sat C ρ s) (x : PoolAt s.heap P S xs k) : P ≠ C.env.locals ∧ ∀ y ∈ C.env.cells, y.2 ≠ P := by
  obtain ⟨t0, us, ⟨n, p1⟩, p2, ia⟩ := x
  exact hs.off p1
/-- pool[1] = e -/
theorem pool_store {x : Str} {o i value : Expr} {p pos : Pos} {P S : Addr} {xs : List Int} {k v : Int} {s : Shared} {Q : Flow → Shared → Prop} (hf : Flat ρ) (hv : Ev C ρ value (.b (.int v))) (ho : Ev C ρ o (.b (.ref P))) (hi : Ev C ρ i (.b (.int 1)))
    (hs : Sat C ρ s) (x : PoolAt s.heap P S xs k) (hP : C.s₀.heap.get? P = none) (hQ : ∀ s', Sat C ρ s' → KX C [P] s s' → PoolAt s'.heap P S xs v → Q .next s')
    (hsw : swapsWith value (some (.Subscript o i p)) pos.line C.env = pure false := by rfl) : wpAny (model pg C.w) C.A (exec (.Assign [.Subscript o i p] value pos) C.env) Q nE s := by
  refine wpAny_Assign_Subscript (hv s _ hs fun u s1 k1 r1 => ho s1 _ (hs.keeps k1) fun ov s2 k2 r2 => hi s2 _ ((hs.keeps k1).keeps k2) fun iv s3 k3 r3 => ?_) hsw
  obtain ⟨t1, rfl⟩ := r1
  have r2' : ov = .ref P := r2
  subst r2'
  obtain ⟨t3, rfl⟩ := r3
  have k13 := (k1.trans k2).trans k3
  have sat3 := hs.keeps k13
  have x3 := x.ks k13.ks
  have off := x3.off sat3
  obtain ⟨t0, us, p1, p2, ia⟩ := x3
  refine plain_set p1 (by decide) (by show (1 : Int) < 2; decide) (by show 2 ≤ 1000000; decide) fun h' pl' sb => ?_
  have hk' : ∀ b o, b ≠ P → s3.heap.get? b = some o → h'.get? b = some o := fun b o hb e => sb.extBut b o hb e
  have hSP : S ≠ P := by
    rintro rfl
    obtain ⟨n, e1⟩ := p1
    obtain ⟨n', e2⟩ := p2
    have := e1.symm.trans e2
    simp only [Option.some.injEq, Obj.mk.injEq, Data.seq.injEq] at this
    have hv : [Value.ref S, Value.int k t0] = us := by simpa using this.2.2.1.1
    subst hv
    cases ia
  refine hQ _ (sat3.bumpF (tk := s3.toks) hf (wr := [P]) (fun b o hb e => hk' b o (fun q => hb (by rw [q]; exact List.mem_singleton.mpr rfl)) e) ?_) ?_ ?_
  · intro b hb
    cases List.mem_singleton.mp hb
    exact ⟨hP, off.1, off.2⟩
  · exact k13.kx.trans ⟨⟨h', s3.toks, rfl⟩, fun b o n1 n2 n3 e => hk' b o (fun q => n3 (by rw [q]; exact List.mem_singleton.mpr rfl)) e⟩
  · obtain ⟨n', e2⟩ := p2
    exact ⟨t1, us, pl', ⟨n', hk' _ _ hSP e2⟩, ia⟩
end
end Mine
end

section
set_option maxRecDepth 100000
namespace Mine
open PySem PySem.W PySem.Calls PyProof.Rows


section
variable {C : Act} {ρ : Loc}
theorem Evs.ints : ∀ es : List (Int × Pos), Evs C ρ (es.map fun z => .Constant (.int z.1) 0 z.2) ((es.map fun z => A0.int z.1).map AV.b)
  | [] => .nil
  | _ :: r => Evs.cons Ev.int (Evs.ints r) rfl
theorem Ev.tupI {k : Nat} {p : Pos} (es : List (Int × Pos)) (hz : es.length ≤ 1000) : Ev C ρ (.Tuple (es.map fun z => .Constant (.int z.1) 0 z.2) k p) (.tup (es.map fun z => .int z.1)) :=
  Ev.tup (Evs.ints es) (by rw [List.length_map]; exact hz) (by rw [List.length_map, List.length_map])
/-- displays of ints, equal to what is looked for -/
theorem Ev.tupE {k : Nat} {p : Pos} {es : List Expr} {as : List A0} (l : List (Int × Pos)) (hz : l.length ≤ 1000) (h1 : es = l.map fun z => .Constant (.int z.1) 0 z.2) (h2 : as = l.map fun z => .int z.1) : Ev C ρ (.Tuple es k p) (.tup as) := by
  subst h1; subst h2; exact @Ev.tupI C ρ k p l hz
end
theorem et_6 {C : Act} {ρ : Loc} {p0 p1 p2 p3 p4 p5 p6 p7 p8 p9 pt : Pos} {k : Nat} : Ev C ρ (.Tuple [.Constant (.int 0) 0 p0, .Constant (.int 4) 0 p1, .Constant (.int 1) 0 p2, .Constant (.int 2) 0 p3, .Constant (.int 4) 0 p4, .Constant (.int 5) 0 p5, .Constant (.int 4) 0 p6, .Constant (.int 3) 0 p7, .Constant (.int 3) 0 p8, .Constant (.int 1) 0 p9] k pt) (.tup [.int 0, .int 4, .int 1, .int 2, .int 4, .int 5, .int 4, .int 3, .int 3, .int 1]) :=
  @Ev.tupE C ρ k pt _ _ [(0, p0), (4, p1), (1, p2), (2, p3), (4, p4), (5, p5), (4, p6), (3, p7), (3, p8), (1, p9)] (by simp) rfl rfl

noncomputable def tableL : List Int := [0, 4, 1, 2, 4, 5, 4, 3, 3, 1]
noncomputable def drawL (xs : List Int) (k : Nat) (m : Int) : Int := if k < xs.length then ((xs.getD k 0).natAbs : Int).fmod m else (tableL.getD (k % 10) 0).fmod m
theorem call_draw {w : World} {A : Around} {s : Shared} {P S : Addr} {vs : List Value} {Q : Value → Shared → Prop} (g : Heap) {xs : List Int} {k : Nat} {m : Int} (hg : ∀ b o, g.get? b = some o → s.heap.get? b = some o) (tpg : Tp w g) (room : Room A 1)
    (hvs : All2 (Rep s.heap) vs [.b (.ref P), .b (.int m)]) (x : PoolAt s.heap P S xs k) (hP : g.get? P = none) (hm : m ≠ 0) (hk : k ≤ 1000) (hxs : xs.length ≤ 1000000)
    (hQ : ∀ v s', Kx [P] s s' → RI v (drawL xs k m) → PoolAt s'.heap P S xs ((k + 1 : Nat) : Int) → Q v s') : wpAny (model pg w) A (call (.ref 242) vs) Q nE s := by
  refine Fn.enterX g hg tpg room hvs ["pool", "many"] (by walk_at "ent") (by walk_at "entc") (bind2 fun v u => by rfl) (by rfl) (by decide) rfl ?_
  intro A' L s₁ ok sat kp off
  have x1 := x.ks kp.ks
  have fin : ∀ v s', KX (act w A' _ L 242 { s with heap := g } 0) [P] s s' → RI v (drawL xs k m) → PoolAt s'.heap P S xs ((k + 1 : Nat) : Int) → Q v s' := fun v s' kx r x' => hQ v s' ⟨kx.same, fun b o hb e => kx.keep b o (off b o e).1 (off b o e).2 hb e⟩ r x'
  refine assignZ (Ev.pool1 Ev.name Ev.int) (sat.up (x := "pool") (b := .b (.pool xs k)) rfl x1.r0) sat fun s2 k2 sat2 => ?_
  have x2 := x1.ks (sat.ks k2)
  refine wpAny_execs_cons (pool_store (x := "pool") ?_ (Ev.add Ev.name Ev.int) Ev.name Ev.int sat2 x2 hP fun s3 sat3 kx3 x3 => ?_)
  · rfl
  have ek : (k : Int) + 1 = ((k + 1 : Nat) : Int) := by omega
  rw [ek] at x3
  have kx : KX _ [P] s s3 := ((kp.kx (C := _)).trans k2.kx).trans kx3
  have up3 := sat3.up (x := "pool") (b := .b (.pool xs ((k + 1 : Nat) : Int))) rfl x3.r0
  refine wpAny_execs_cons (wpAny_If (Tr.run (Tr.cmp Ev.name (Ev.callB gb_len (Evs.cons (Ev.pool0 Ev.name Ev.int) .nil) (Bn.len hxs)) Cmp.lt) up3 fun s4 k4 => ?_))
  have up4 := up3.keeps k4
  cases hc : decide ((k : Int) < (xs.length : Int)) with
  | true =>
    have hlt : k < xs.length := by have := of_decide_eq_true hc; omega
    simp only [if_true]
    refine wpAny_execs_cons (wpAny_Return_some (Ev.run (Ev.fmod (Ev.callB gb_abs (Evs.cons (Ev.idx (n := xs.getD k 0) (Ev.pool0 Ev.name Ev.int) Ev.name (by omega) (by omega) (by rw [Int.toNat_natCast]; simp [List.getD, hlt])) .nil) Bn.abs) Ev.name hm) up4 fun v s5 k5 r5 => ?_))
    refine fin v s5 (kx.trans (k4.trans k5).kx) ?_ (x3.ks (k4.trans k5).ks)
    unfold drawL
    rw [if_pos hlt]; exact r5
  | false =>
    have hlt : ¬ k < xs.length := by have := of_decide_eq_false hc; omega
    simp only [Bool.false_eq_true, if_false]
    refine wpAny_execs_nil ?_
    have hmod : ((k : Int).fmod 10).toNat = k % 10 := by rw [Int.fmod_eq_emod_of_nonneg _ (by decide)]; omega
    obtain ⟨q, hq⟩ : ∃ q, (k : Int).fmod 10 = q := ⟨_, rfl⟩
    have hk10 : k % 10 < 10 := Nat.mod_lt _ (by decide)
    obtain ⟨t, ht⟩ : ∃ t, tableL.getD (k % 10) 0 = t := ⟨_, rfl⟩
    have hget : ([.int 0, .int 4, .int 1, .int 2, .int 4, .int 5, .int 4, .int 3, .int 3, .int 1] : List A0)[q.toNat]? = some (.int t) := by
      rw [← hq, hmod, ← ht]
      generalize k % 10 = j at *
      match j, hk10 with
      | 0, _ => rfl
      | 1, _ => rfl
      | 2, _ => rfl
      | 3, _ => rfl
      | 4, _ => rfl
      | 5, _ => rfl
      | 6, _ => rfl
      | 7, _ => rfl
      | 8, _ => rfl
      | 9, _ => rfl
    have q0 : 0 ≤ q ∧ q < 1000000 := by rw [Int.fmod_eq_emod_of_nonneg _ (by decide)] at hq; omega
    have fin2 : ∀ v s5, Kp s3 s5 → RI v (t.fmod m) → Q v s5 := fun v s5 k5 r5 => fin v s5 (kx.trans k5.kx) (by unfold drawL; rw [if_neg hlt, ht]; exact r5) (x3.ks k5.ks)
    clear fin hlt hmod hc hk10 ht hQ
    show wpAny _ _ (execs _ _) _ _ _
    refine wpAny_execs_cons ?_
    refine wpAny_Return_some ?_
    refine @Ev.run _ _ _ (.b (.int (t.fmod m))) _ _ ?_ up4 (fun v s5 k5 r5 => fin2 v s5 (k4.trans k5) r5)
    refine @Ev.fmod _ _ _ _ _ t m ?_ ?_ hm
    · refine @Ev.idxT _ _ _ _ _ _ q (.int t) ?_ ?_ q0.1 q0.2 hget ?_
      · exact @et_6 _ _ _ _ _ _ _ _ _ _ _ _ _ _
      · rw [← hq]; exact Ev.fmod Ev.name Ev.int (by decide)
      · with_unfolding_all (intro _ _; rfl)
    · exact Ev.name
end Mine
end

section
namespace Mine
open PySem PySem.W PySem.Calls PyProof.Rows

/-! tuples of ints and lists of ints, compared -/
inductive D0 : A0 → PyData → Prop where
  | int (n : Int) : D0 (.int n) (.int n)
  | zs (xs : List Int) : D0 (.zs xs) (.list (xs.map PyData.int))
theorem D0.reads {h : Heap} {v : Value} {a : A0} {d : PyData} (x : D0 a d) (r : R0 h v a) : ∃ bs, Reads h v d bs := by
  cases x with
  | int n => obtain ⟨t, rfl⟩ := r; exact ⟨_, .int n t⟩
  | zs xs => obtain ⟨a, us, rfl, pl, ia⟩ := r; exact ⟨_, reads_of_ints pl.isList ia⟩
theorem D0.all {h : Heap} : ∀ {vs : List Value} {as : List A0} {ds : List PyData}, All2 D0 as ds → All2 (R0 h) vs as → ∃ bs, ReadsAll h vs ds bs
  | _, _, _, .nil, .nil => ⟨_, .nil⟩
  | _, _, _, .cons x t, .cons r q => by
    obtain ⟨b1, h1⟩ := x.reads r
    obtain ⟨b2, h2⟩ := D0.all t q
    exact ⟨_, .cons h1 h2⟩
theorem D0.depth {a : A0} {d : PyData} (x : D0 a d) : d.depth ≤ 2 := by
  cases x with
  | int n => simp [PyData.depth]
  | zs xs => have := W.depthAll_ints xs; simp only [PyData.depth]; omega
theorem D0.depths : ∀ {as : List A0} {ds : List PyData}, All2 D0 as ds → PyData.depthAll ds ≤ 2
  | _, _, .nil => by simp [PyData.depthAll]
  | _, _, .cons x t => by
    have h1 := x.depth
    have h2 := D0.depths t
    simp only [PyData.depthAll]; omega
theorem D0.lay {a : A0} {d : PyData} (x : D0 a d) : d.canLay0 = true := by
  cases x with
  | int n => simp [PyData.canLay0]
  | zs xs => simp only [PyData.canLay0]; exact canLayAll0_ints xs
theorem D0.lays : ∀ {as : List A0} {ds : List PyData}, All2 D0 as ds → PyData.canLayAll0 ds = true
  | _, _, .nil => by simp [PyData.canLayAll0]
  | _, _, .cons x t => by simp [PyData.canLayAll0, x.lay, D0.lays t]
theorem D0.shaped {as : List A0} {ds : List PyData} (x : All2 D0 as ds) : SeqAt.shaped (.tuple ds) = true := by
  have h1 := D0.depths x
  have h2 : PyData.depth (.tuple ds) ≤ 64 := by simp only [PyData.depth]; omega
  show (PyData.canLay0 (.tuple ds) && decide (PyData.depth (.tuple ds) ≤ 64)) = true
  rw [Bool.and_eq_true]
  exact ⟨by simp only [PyData.canLay0]; exact D0.lays x, decide_eq_true h2⟩
theorem D0.mix {a : A0} {d : PyData} (x : D0 a d) : SeqAt.noMix d d = true := by
  cases x with
  | int n => simp [SeqAt.noMix]
  | zs xs => simp only [SeqAt.noMix]; exact noMix_ints xs xs
theorem D0.mixs : ∀ {as : List A0} {ds : List PyData}, All2 D0 as ds → SeqAt.noMixAll ds ds = true
  | _, _, .nil => by simp [SeqAt.noMixAll]
  | _, _, .cons x t => by simp [SeqAt.noMixAll, x.mix, D0.mixs t]
section
variable {C : Act} {ρ : Loc}
theorem Cmp.eqT {as : List A0} {ds : List PyData} (x : All2 D0 as ds) : Cmp C .Eq (.tup as) (.tup as) true := fun s u v Q ok r1 r2 hQ => by
  obtain ⟨a, vs, rfl, ⟨o1, ho1, hc1, n1, hd1⟩, i1⟩ := r1; obtain ⟨b, us, rfl, ⟨o2, ho2, hc2, n2, hd2⟩, i2⟩ := r2
  obtain ⟨b1, q1⟩ := D0.all x i1
  obtain ⟨b2, q2⟩ := D0.all x i2
  refine eq_dataH_same (da := .tuple ds) (db := .tuple ds) (Reads.tuple ho1 hc1 hd1 (by simpa using q1)) (Reads.tuple ho2 hc2 hd2 (by simpa using q2)) (D0.shaped x) (D0.shaped x) ok.room (by simp only [SeqAt.noMix]; exact D0.mixs x) ?_
  rw [PySem.Spec.same_self]
  exact hQ s Kp.rfl'
theorem Cmp.neT {as : List A0} {ds : List PyData} (x : All2 D0 as ds) : Cmp C .NotEq (.tup as) (.tup as) false := fun s u v Q ok r1 r2 hQ => by
  obtain ⟨a, vs, rfl, ⟨o1, ho1, hc1, n1, hd1⟩, i1⟩ := r1; obtain ⟨b, us, rfl, ⟨o2, ho2, hc2, n2, hd2⟩, i2⟩ := r2
  obtain ⟨b1, q1⟩ := D0.all x i1
  obtain ⟨b2, q2⟩ := D0.all x i2
  refine ne_dataH_same (da := .tuple ds) (db := .tuple ds) (Reads.tuple ho1 hc1 hd1 (by simpa using q1)) (Reads.tuple ho2 hc2 hd2 (by simpa using q2)) (D0.shaped x) (D0.shaped x) ok.room (by simp only [SeqAt.noMix]; exact D0.mixs x) ?_
  rw [PySem.Spec.same_self]
  exact hQ s Kp.rfl'

/-! a tuple of any values, taken apart by names -/
theorem Ex1.assignTT {elts es : List Expr} {k k' : Nat} {tp q p : Pos} {xs : List Str} {as : List AV} (h : Evs C ρ es as) (hk : ∀ x ∈ xs, Kd C x) (hl : xs.length = as.length) (hz : es.length ≤ 1000 := by decide) (hx : as.length = es.length := by rfl)
    (hs : swapsWithSole [.Tuple elts k tp] (.Tuple es k' p) q.line C.env = pure false := by rfl) (hw : swappedStores [.Tuple elts k tp] (.Tuple es k' p) C.env = pure (some xs) := by rfl) :
    Ex1 C ρ (.Assign [.Tuple elts k tp] (.Tuple es k' p) q) (fun o => o = .next (zipR xs.reverse as.reverse ρ)) := by
  intro s Q hS hQ
  refine Assign_Tuple_swapped (wpAny_Tuple (h.2 p s _ hS fun vs s1 k1 r1 => ⟨?_, ?_⟩)) hs hw
  · have := r1.length; exact sizeL (by omega)
  · have k2 : Kp s1 { s1 with heap := s1.heap.push { cls := .type "tuple", data := .seq vs.toArray } } := Kp.push _ _
    have hlen : xs.length = vs.toArray.size := by rw [List.size_toArray, r1.length, hl]
    rw [hlen]
    refine unpackItems_tuple hS.ok.handled (items := vs.toArray) ⟨_, Heap.get?_push_size _ rfl, rfl, _, rfl⟩ fun h' he => ?_
    have k3 := kp_ext he
    have ht : All2 (fun t x => ∀ v s (Q : Unit → Shared → Prop), wpAny (model pg C.w) C.A (storeName C.env x v) Q nE s → wpAny (model pg C.w) C.A (t v) Q nE s) (xs.reverse.map fun n => bindName C.env n) xs.reverse := by
      generalize xs.reverse = ys
      induction ys with
      | nil => exact .nil
      | cons y ys ih => exact .cons target_bind ih
    have r3 : All2 (Rep h') vs as := r1.mono fun _ _ r => (r.ks k2.ks).ks k3.ks
    have e : vs.toArray.toList = vs := by simp
    refine stores_ (((hS.keeps k1).keeps k2).keeps k3) (all2_rev (e.symm ▸ r3)) ht (fun x hx => hk x (List.mem_reverse.mp hx)) (by simpa using hl) fun s3 hs3 k4 => hQ _ _ s3 rfl (((k1.trans k2).trans k3).kf.trans k4) ⟨rfl, hs3⟩

/-! a new pool -/
theorem pool_new {e1 e2 : Expr} {p : Pos} {xs : List Int} {k : Int} {s : Shared} {Q : Value → Shared → Prop} (h1 : Ev C ρ e1 (.b (.zs xs))) (h2 : Ev C ρ e2 (.b (.int k))) (hs : Sat C ρ s)
    (hQ : ∀ s' D S, Kp s s' → s.heap.get? D = none → PoolAt s'.heap D S xs k → Q (.ref D) s')
    (he1 : starEach [e1, e2] C.env = (false, eval e1 C.env) :: starEach [e2] C.env := by rfl) (he2 : starEach [e2] C.env = (false, eval e2 C.env) :: starEach [] C.env := by rfl) :
    wpAny (model pg C.w) C.A (eval (.List [e1, e2] p) C.env) Q nE s := by
  have h : Evs C ρ [e1, e2] [.b (.zs xs), .b (.int k)] := Evs.cons h1 (Evs.cons h2 .nil he2) he1
  refine wpAny_List (h.2 p s _ hs fun vs s1 k1 r1 => ⟨?_, ?_⟩)
  · have := r1.length; exact sizeL (by rw [this]; show 2 ≤ 1000000; decide)
  · have k2 : Kp s1 { s1 with heap := s1.heap.push { cls := .type "list", data := .seq vs.toArray } } := Kp.push _ _
    obtain _ | ⟨⟨a, us, rfl, pl, ia⟩, _ | ⟨⟨t, rfl⟩, _ | _⟩⟩ := r1
    refine hQ _ _ a (k1.trans k2) ?_ ⟨t, us, ⟨_, Heap.get?_push_size _ rfl⟩, plain_ks k2.ks pl, ia⟩
    cases e : s.heap.get? s1.heap.objs.size with
    | none => rfl
    | some o => have := Heap.lt_size (k1.get _ _ e); exact absurd this (Nat.lt_irrefl _)
theorem Bt.int {n : Int} : Bt C "int" [.b (.int n)] (.b (.int n)) := by
  intro s vs Q ok r hQ
  obtain _ | ⟨⟨t, rfl⟩, _ | _⟩ := r
  exact _root_.PySem.call_int_int (hQ _ _ Kp.rfl' ⟨t, rfl⟩)
/-- the pool is no list of ints -/
theorem PoolAt.apart {h : Heap} {P S a : Addr} {xs ys : List Int} {k : Int} {us : List Value} (x : PoolAt h P S xs k) (p : h.PlainList a us.toArray) (i : IntsAre us ys) : a ≠ P := by
  rintro rfl
  obtain ⟨t0, ws, ⟨n, p1⟩, p2, ia⟩ := x
  obtain ⟨m, e'⟩ := p
  have := p1.symm.trans e'
  simp only [Option.some.injEq, Obj.mk.injEq, Data.seq.injEq] at this
  have hv : [Value.ref S, Value.int k t0] = us := by simpa using this.2.2.1.1
  subst hv
  cases i
end
end Mine
end

section
set_option maxRecDepth 100000
namespace Mine
open PySem PySem.W PySem.Calls PyProof.Rows
section
variable {C : Act} {ρ : Loc}
theorem ev_draw {e1 e2 : Expr} {p q : Pos} {P S : Addr} {xs : List Int} {k : Nat} {m : Int} {s : Shared} {Q : Value → Shared → Prop} (h1 : Ev C ρ e1 (.b (.ref P))) (h2 : Ev C ρ e2 (.b (.int m))) (hs : Sat C ρ s) (hf : Flat ρ)
    (x : PoolAt s.heap P S xs k) (hP : C.s₀.heap.get? P = none) (hm : m ≠ 0) (hk : k ≤ 1000) (hxs : xs.length ≤ 1000000) (hkk : 1 ≤ C.k)
    (hQ : ∀ v s', Sat C ρ s' → Kx [P] s s' → RI v (drawL xs k m) → PoolAt s'.heap P S xs ((k + 1 : Nat) : Int) → Q v s')
    (hg' : C.env.kindOf "_law_draw" = some .globalImplicit := by rfl) (he1 : starEach [e1, e2] C.env = (false, eval e1 C.env) :: starEach [e2] C.env := by rfl) (he2 : starEach [e2] C.env = (false, eval e2 C.env) :: starEach [] C.env := by rfl) :
    wpAny (model pg C.w) C.A (eval (.Call (.Name "_law_draw" p) [e1, e2] [] q) C.env) Q nE s := by
  refine call_raw gf_law_draw if_law_draw (Evs.cons h1 (Evs.cons h2 .nil he2) he1) hs (fun vs s1 k1 r1 => ?_) hg'
  have sat1 := hs.keeps k1
  have x1 := x.ks k1.ks
  refine call_draw C.s₀.heap sat1.keep hs.ok.top (hs.ok.toRoom.le hkk) r1 x1 hP hm hk hxs fun v s2 kx r2 x2 => ?_
  have off := x1.off sat1
  refine hQ v s2 (sat1.kx hf kx fun b hb => ?_) (k1.kX.trans kx) r2 x2
  rw [List.mem_singleton.mp hb]
  exact ⟨hP, off.1, off.2⟩

noncomputable def drawsL (xs : List Int) (k : Nat) (m c : Int) (n : Nat) : List Int := (List.range n).map fun i => drawL xs (k + i) m - c
theorem drawsL_succ (xs : List Int) (k : Nat) (m c : Int) (n : Nat) : drawsL xs k m c (n + 1) = drawsL xs k m c n ++ [drawL xs (k + n) m - c] := by
  unfold drawsL
  rw [List.range_succ, List.map_append]; rfl
theorem ints_snoc : ∀ {vs : List Value} {xs : List Int} {n : Int} {t : Tok}, IntsAre vs xs → IntsAre (vs ++ [Value.int n t]) (xs ++ [n])
  | _, _, _, t, .nil => .cons _ t .nil
  | _, _, _, _, .cons m u r => .cons m u (ints_snoc r)
/-- the comprehension of n draws, given a name -/
theorem draws {y : Str} {py p1 p2 p3 p4 p5 p6 p7 p8 p9 px p sp : Pos} {scope : Scope} {cl : List (Str × Addr)} {P S : Addr} {xs : List Int} {k n : Nat} {m c nn : Int} {s : Shared} {Q : Flow → Shared → Prop}
    (hs : Sat C ρ s) (hf : Flat ρ) (hp : ρ.lookup ("pool" : Str) = some (.b (.ref P))) (x : PoolAt s.heap P S xs k) (hP : C.s₀.heap.get? P = none) (hm : m ≠ 0) (hnn : nn = n) (hk : k + n ≤ 1000) (hxs : xs.length ≤ 1000000) (hkk : 1 ≤ C.k) (hy : Kd C y)
    (hQ : ∀ s', Sat C ((y, .b (.zs (drawsL xs k m c n))) :: ρ) s' → KX C [P] s s' → PoolAt s'.heap P S xs ((k + n : Nat) : Int) → Q .next s')
    (hsw : swapsWith (.ListComp (.BinOp (.Call (.Name "_law_draw" p1) [.Name "pool" p2, .Constant (.int m) 0 p3] [] p4) .Sub (.Constant (.int c) 0 p5) p6) [⟨.Name "spot" px, .Call (.Name "range" p7) [.Constant (.int nn) 0 p8] [] p9, [], 0⟩] scope p) (some (.Name y py)) sp.line C.env = pure true)
    (hcl : ∀ y ∈ cl, y ∈ C.env.cells) (hclos : closureFor scope C.env = pure cl)
    (hg : C.env.kindOf "range" = some .globalImplicit)
    (hin : ∀ Cn, (compEnvC scope cl Cn C.env).kindOf "_law_draw" = some .globalImplicit ∧ (compEnvC scope cl Cn C.env).kindOf "pool" = some .cell ∧ (List.lookup ("pool" : Str) (compEnvC scope cl Cn C.env).cells).isSome = true)
    (hρc : ((([("pool", .b (.ref P))] : Loc)).all fun q => (cl.lookup q.1).isSome && ((relabel scope C.env).names.lookup q.1 == some .cell) && (C.env.kindOf q.1 == some .cell)) = true)
    (hcell : ∀ y ∈ scope.names, y.2 ≠ .cell) (hkind : scope.kind = .function)
    (hnames : ∀ y ∈ scope.names, y.2 = .local → scope.names.lookup y.1 = some .local) (hx : scope.names.lookup ("spot" : Str) = some .local)
    (hnd : ((cl.map (·.1)).Nodup)) (hss : ∀ x, foldedSetIterable (.Call (.Name "range" p7) [.Constant (.int nn) 0 p8] [] p9) C.env x = pure x) :
    wpAny (model pg C.w) C.A (exec (.Assign [.Name y py] (.ListComp (.BinOp (.Call (.Name "_law_draw" p1) [.Name "pool" p2, .Constant (.int m) 0 p3] [] p4) .Sub (.Constant (.int c) 0 p5) p6) [⟨.Name "spot" px, .Call (.Name "range" p7) [.Constant (.int nn) 0 p8] [] p9, [], 0⟩] scope p) sp) C.env) Q nE s := by
  subst hnn
  rw [exec_Assign_Name_used _ _ _ _ hsw]
  refine wpAny_bind (wpAny_standAt (wpAny_bind ?_))
  show wpAny _ _ (do let _ ← comprehension (.ListComp _ [⟨.Name "spot" px, _, [], 0⟩] scope p) scope C.env _ (newList []) false (eval _ C.env) (some (assign (.Name y py) C.env))) _ _ s
  have hPP := x.seq
  have xS : ∃ o, s.heap.get? S = some o := by obtain ⟨t, us, p1, ⟨n, e⟩, i⟩ := x; exact ⟨_, e⟩
  have xP : ∃ o, s.heap.get? P = some o := by obtain ⟨t, us, ⟨n, e⟩, p2, i⟩ := x; exact ⟨_, e⟩
  have hn0 : ((n : Int)).toNat = n := by omega
  refine wpAny_bind (wpAny_mono (compS (n := n) (it := fun i => .b (.int i)) (cl := cl) (ρc := [("pool", .b (.ref P))]) (use := some (assign (.Name y py) C.env)) (Q := fun _ s' => Q .next s') [P] (fun Z i ys s' => PoolAt s'.heap P S xs ((k + i : Nat) : Int) ∧ IntsAre ys (drawsL xs k m c i))
    hs hf (RI := OnlyI) ?_ (by omega) (fun b hb => by rw [List.mem_singleton.mp hb]; exact hPP) (fun b hb => by rw [List.mem_singleton.mp hb]; exact hP) (fun _ => Or.inl rfl) (Or.inr fun I fp h => h) ?_ ?_ ?_ ?_ ?_ hcl hclos hρc hcell hkind hnames hx hnd hss) (fun _ s' hq => wpAny_pure (wpAny_pure hq)) fun _ _ e => e)
  · have := SrcNow.range1 (C := C) (ρ := ρ) (e := .Constant (.int n) 0 p8) (p := p7) (q := p9) (b := n) (s := s) gb_range (Evs.cons Ev.int .nil) hs (by omega) hg
    rw [hn0] at this
    exact this
  · intro Z s1 k1 hZ
    exact ⟨x.ks k1.ks, .nil⟩
  · rintro Z i ys s1 h' tk hZ ⟨⟨t, us, ⟨n1, e1⟩, ⟨n2, e2⟩, ia⟩, iy⟩ hk'
    refine ⟨⟨t, us, ⟨n1, hk' _ _ (fun q => ?_) e1⟩, ⟨n2, hk' _ _ (fun q => ?_) e2⟩, ia⟩, iy⟩
    · obtain ⟨o, ho⟩ := xP; rw [hZ P q] at ho; cases ho
    · obtain ⟨o, ho⟩ := xS; rw [hZ S q] at ho; cases ho
  · rintro Z Cn i ys s3 hi hZ zex kx ⟨x3, iy⟩ sat3 satI hlen
    refine wpAny_BinOp (ev_draw (C := inn C scope cl Cn { s3 with heap := C.s₀.heap }) (S := S) (k := k + i) (Ev.name rfl (Or.inr ⟨(hin Cn).2.1, (hin Cn).2.2⟩)) Ev.int satI (by rfl) x3 hP hm (by omega) hxs hkk (fun v s4 sat4 kx4 r4 x4 => ?_) (hin Cn).1)
    refine (Ev.int (C := inn C scope cl Cn { s3 with heap := C.s₀.heap })) s4 _ sat4 fun u s5 k5 r5 => ?_
    obtain ⟨t, rfl⟩ := r4
    obtain ⟨t', rfl⟩ := r5
    refine PyProof.Rows.sub_int ⟨(kx4.trans k5.kX).trans (Kp.tok _).kX, ?_, ?_⟩
    · exact (x4.ks k5.ks).ks (Kp.tok _).ks
    · rw [drawsL_succ]; exact ints_snoc iy
  · rintro Z D Cn mm s5 ys hDC hZ hD hCn hNs pl hlen kx sat ⟨x5, iy⟩ hDZ hCZ
    have off := hs.offNew hCn
    show wpAny _ _ (assign (.Name y py) C.env (.ref D)) _ _ _
    refine assign_Name (store_ (a := .b (.zs (drawsL xs k m c n))) sat ⟨D, ys, rfl, pl, iy⟩ hy fun s6 sat6 k6 => ?_)
    have hNs6 := hNs.at' (h' := s6.heap) fun o e => k6.2 _ o off.1 off.2 e
    refine ⟨mm, hNs6, fun h' sb => ?_⟩
    have ks6 : KS s6.heap h' := ks_but hNs6 sb.extBut
    have kx6 : KX C [P] s s6 := kx.kx.trans k6.kx
    have sat7 : Sat C ((y, .b (.zs (drawsL xs k m c n))) :: ρ) { s6 with heap := h' } := sat6.bump (wr := [Cn]) (tk := s6.toks) (fun b o hb e => sb.extBut b o (fun q => hb (by rw [q]; exact List.mem_singleton.mpr rfl)) e) fun b hb => by
      rw [List.mem_singleton.mp hb]
      refine ⟨?_, off.1, off.2, fun o e vs k hd => ?_⟩
      · cases e : C.s₀.heap.get? Cn with
        | none => rfl
        | some o => have := hs.keep _ o e; rw [hCn] at this; cases this
      · obtain ⟨o', es, ep, ho, hd', _⟩ := hNs6
        have := e.symm.trans ho; cases this
        rw [hd] at hd'; cases hd'
    refine hQ _ sat7 ?_ ((x5.ks (sat.ks k6)).ks ks6)
    obtain ⟨⟨h6, t6, rfl⟩, hk6⟩ := kx6
    exact ⟨⟨h', t6, rfl⟩, fun b o n1 n2 n3 e => sb.extBut b o (fun q => by rw [q, hCn] at e; cases e) (hk6 b o n1 n2 n3 e)⟩
  · intro y a e
    rw [List.lookup_cons] at e
    by_cases hy : y = ("pool" : Str)
    · subst hy
      rw [beq_self_eq_true] at e; cases e
      exact hp
    · rw [beq_eq_false_iff_ne.mpr hy] at e; cases e
end
end Mine
end

section
set_option maxRecDepth 100000
namespace Mine
open PySem PySem.W PySem.Calls PyProof.Rows

noncomputable def fOf (kind : Int) (row : List Int) : List Int :=
  if kind = 1 then scaleL (mulL (trimL (row.take 3)) (trimL (row.take 3))) (row.getD 3 0)
  else if kind = 2 then mulL (powG [1] (trimL (row.take 2)) 3) (trimL ((row.take 4).drop 2)) else trimL row
noncomputable def partOf (row : List Int) : Int := row.getD 3 0 * (row.getD 1 0 ^ 2 - 4 * row.getD 0 0 * row.getD 2 0)

theorem drawL_range (xs : List Int) (k : Nat) {m : Int} (hm : 0 < m) : 0 ≤ drawL xs k m ∧ drawL xs k m < m := by
  unfold drawL
  split <;> rw [Int.fmod_eq_emod_of_nonneg _ (Int.le_of_lt hm)] <;> exact ⟨Int.emod_nonneg _ (by omega), Int.emod_lt_of_pos _ hm⟩
theorem row_form (xs : List Int) (k : Nat) : ∃ r0 r1 r2 r3 r4 : Int, drawsL xs k 7 3 5 = [r0, r1, r2, r3, r4] ∧ (r0.natAbs ≤ 3 ∧ r1.natAbs ≤ 3 ∧ r2.natAbs ≤ 3 ∧ r3.natAbs ≤ 3 ∧ r4.natAbs ≤ 3) := by
  refine ⟨drawL xs (k + 0) 7 - 3, drawL xs (k + 1) 7 - 3, drawL xs (k + 2) 7 - 3, drawL xs (k + 3) 7 - 3, drawL xs (k + 4) 7 - 3, rfl, ?_⟩
  have h := fun i => drawL_range xs (k + i) (m := 7) (by decide)
  have h0 := h 0
  have h1 := h 1
  have h2 := h 2
  have h3 := h 3
  have h4 := h 4
  refine ⟨?_, ?_, ?_, ?_, ?_⟩ <;> omega
theorem move_form (xs : List Int) (k : Nat) : ∃ p q r s : Int, drawsL xs k 5 2 4 = [p, q, r, s] ∧ (p.natAbs ≤ 2 ∧ q.natAbs ≤ 2 ∧ r.natAbs ≤ 2 ∧ s.natAbs ≤ 2) := by
  refine ⟨drawL xs (k + 0) 5 - 2, drawL xs (k + 1) 5 - 2, drawL xs (k + 2) 5 - 2, drawL xs (k + 3) 5 - 2, rfl, ?_⟩
  have h := fun i => drawL_range xs (k + i) (m := 5) (by decide)
  have h0 := h 0
  have h1 := h 1
  have h2 := h 2
  have h3 := h 3
  refine ⟨?_, ?_, ?_, ?_⟩ <;> omega
theorem powG3 (l : List Int) : powG [1] l 3 = mulL (mulL [1] l) (mulL l l) := by
  rw [powG_step _ _ (by decide), powG_step _ _ (by decide)]
  exact powG_zero _ _
theorem fOf_facts {kind r0 r1 r2 r3 r4 : Int} (h : r0.natAbs ≤ 3 ∧ r1.natAbs ≤ 3 ∧ r2.natAbs ≤ 3 ∧ r3.natAbs ≤ 3 ∧ r4.natAbs ≤ 3) : (fOf kind [r0, r1, r2, r3, r4]).length ≤ 5 ∧ Nb 12 (fOf kind [r0, r1, r2, r3, r4]) := by
  obtain ⟨h0, h1, h2, h3, h4⟩ := h
  unfold fOf
  split
  · have a1 := trimL_length [r0, r1, r2]
    have a2 := mulL_length (trimL [r0, r1, r2]) (trimL [r0, r1, r2])
    have a3 := scaleL_length (mulL (trimL [r0, r1, r2]) (trimL [r0, r1, r2])) r3
    simp only [List.length_cons, List.length_nil] at a1
    have n1 : Nb 4 (trimL [r0, r1, r2]) := Nat.le_trans (nrm_trim _) (by simp only [nrm]; omega)
    exact ⟨by simp only [List.take, List.getD_cons_succ, List.getD_cons_zero]; omega, ((n1.mul n1).scale (l := 2) (by simp only [List.getD_cons_succ, List.getD_cons_zero]; omega)).le (by omega)⟩
  · split
    · have a1 := trimL_length [r0, r1]
      have a2 := trimL_length [r2, r3]
      have n1 : Nb 3 (trimL [r0, r1]) := Nat.le_trans (nrm_trim _) (by simp only [nrm]; omega)
      have n2 : Nb 3 (trimL [r2, r3]) := Nat.le_trans (nrm_trim _) (by simp only [nrm]; omega)
      have p0 := powG_nb 3 3 (Nat.le_refl _) 0 3 [1] (trimL [r0, r1]) (by decide : 1 ≤ 2 ^ 0) n1
      have a3 := mulL_length (powG [1] (trimL [r0, r1]) 3) (trimL [r2, r3])
      have b1 := mulL_length [1] (trimL [r0, r1])
      have b2 := mulL_length (trimL [r0, r1]) (trimL [r0, r1])
      have b3 := mulL_length (mulL [1] (trimL [r0, r1])) (mulL (trimL [r0, r1]) (trimL [r0, r1]))
      rw [← powG3] at b3
      simp only [List.length_cons, List.length_nil] at a1 a2 p0 b1
      exact ⟨by simp only [List.take, List.drop]; omega, (p0.1.mul n2).le (by omega)⟩
    · have a1 := trimL_length [r0, r1, r2, r3, r4]
      simp only [List.length_cons, List.length_nil] at a1
      exact ⟨by omega, (show nrm _ ≤ 2 ^ 12 from Nat.le_trans (nrm_trim _) (by simp only [nrm]; omega))⟩

theorem Ex.use {C : Act} {ρ : Loc} {ss : List Stmt} {K : Out → Prop} {s : Shared} {Q : Flow → Shared → Prop} (h : Ex C ρ ss K) (hs : Sat C ρ s) (hQ : ∀ o fl s', K o → Kf C s s' → OutSat C o fl s' → Q fl s') : wpAny (model pg C.w) C.A (execs ss C.env) Q nE s := h s Q hs hQ
theorem Cmp.neT' {C : Act} {as bs : List A0} {ds : List PyData} (e : as = bs) (x : All2 D0 as ds) : Cmp C .NotEq (.tup as) (.tup bs) false := by subst e; exact Cmp.neT x
theorem Cmp.eqT' {C : Act} {as bs : List A0} {ds : List PyData} (e : as = bs) (x : All2 D0 as ds) : Cmp C .Eq (.tup as) (.tup bs) true := by subst e; exact Cmp.eqT x
/-- what the plain law must say of a form and a move -/
structure Law1 (kind part : Int) (f : List Int) (p q r t : Int) : Prop where
  alone : Fn 9 277 [.b (.zs f), .b (.int (ofPad numI f)), .b (.int (ofPad numJ f))] (.b (.bool true))
  square : kind = 1 → ofPad numI f = part ^ 2 ∧ ofPad numJ f = -2 * part ^ 3 ∧ secondL f = scaleL f (-12 * part) ∧ thirdL f = []
  syz : scaleL (mulL (thirdL f) (thirdL f)) 9 = subL (addL (scaleL (mulL (mulL f f) (secondL f)) (6912 * ofPad numI f)) (scaleL (mulL (mulL f f) f) (-27648 * ofPad numJ f))) (scaleL (mulL (secondL f) (mulL (secondL f) (secondL f))) 16)
  covI : ofPad numI (movedL f 4 (trimL [p, q]) (trimL [r, t])) = ofPad numI f * (q * r - p * t) ^ 4
  covJ : ofPad numJ (movedL f 4 (trimL [p, q]) (trimL [r, t])) = ofPad numJ f * (q * r - p * t) ^ 6
  covS : secondL (movedL f 4 (trimL [p, q]) (trimL [r, t])) = scaleL (movedL (secondL f) 4 (trimL [p, q]) (trimL [r, t])) ((q * r - p * t) ^ 2)
  covT : thirdL (movedL f 4 (trimL [p, q]) (trimL [r, t])) = scaleL (movedL (thirdL f) 6 (trimL [p, q]) (trimL [r, t])) ((q * r - p * t) ^ 3)
  len2 : (secondL f).length ≤ 5
  len3 : (thirdL f).length ≤ 7
  lenW : (movedL f 4 (trimL [p, q]) (trimL [r, t])).length ≤ 5

set_option maxHeartbeats 1000000 in
theorem c_law {xs : List Int} (hxl : xs.length ≤ 1000)
    (H : ∀ kind r0 r1 r2 r3 r4 p q r t : Int, (r0.natAbs ≤ 3 ∧ r1.natAbs ≤ 3 ∧ r2.natAbs ≤ 3 ∧ r3.natAbs ≤ 3 ∧ r4.natAbs ≤ 3) → (p.natAbs ≤ 2 ∧ q.natAbs ≤ 2 ∧ r.natAbs ≤ 2 ∧ t.natAbs ≤ 2) → Law1 kind (r3 * (r1 ^ 2 - 4 * r0 * r2)) (fOf kind [r0, r1, r2, r3, r4]) p q r t) : Fn 12 282 [.b (.zs xs)] (.b (.bool true)) := by
  refine Fn.enter ["script"] (fun w => by walk_at "ent") (fun w => by walk_at "entc") (bind1 fun v => by rfl) (by rfl) (by decide) rfl ?_
  intro w A L s₀ ok
  intro s Q hs hQ
  have s0none : ∀ b, s.heap.get? b = none → s₀.heap.get? b = none := fun b hb => by
    cases e : s₀.heap.get? b with
    | none => rfl
    | some o => have := hs.keep b o e; rw [hb] at this; cases this
  -- pool
  have e10 : xs.take 10 = (xs.take 10).map (fun n => n) := by simp
  refine wpAny_execs_cons (wpAny_Assign_Name (pool_new (xs := xs.take 10) (k := 0) ?_ Ev.int hs fun s1 P S k1 hP x1 => ?_) (by rfl))
  · rw [e10]
    exact Ev.compB (fun n => n) [] [] (Src.list (Ev.sliceTo Ev.name Ev.int (by decide) (by omega))) rfl (by simp; omega) (fun Cn s n hn => Ev.callT gb_int (Evs.cons Ev.name .nil) Bt.int) (by walk_at "sub") (fun y hy => nomatch hy)
  have hPs := s0none P hP
  refine store_ (a := .b (.ref P)) (hs.keeps k1) rfl (Or.inr ⟨rfl, rfl⟩) fun s2 sat2 k2 => ?_
  have x2 := x1.ks ((hs.keeps k1).ks k2)
  have kx2 := (k1.kx (C := _) (X := [P])).trans k2.kx
  have satp : Sat _ [("pool", .b (.ref P))] s2 := sat2.weaken (by walk_at "sub")
  -- kind
  refine wpAny_execs_cons (wpAny_Assign_Name (ev_draw (k := 0) Ev.name Ev.int satp rfl x2 hPs (by decide) (by decide) (by simp; omega) (Nat.le_of_ble_eq_true rfl) fun v s3 sat3 kx3 rv3 x3 => ?_) (by rfl))
  refine store_ (a := .b (.int (drawL (xs.take 10) 0 3))) sat3 rv3 (Or.inl rfl) fun s4 sat4 k4 => ?_
  have x4 := x3.ks (sat3.ks k4)
  have kx4 := (kx2.trans kx3.kx).trans k4.kx
  have satk : Sat _ [("pool", .b (.ref P)), ("kind", .b (.int (drawL (xs.take 10) 0 3)))] s4 := sat4.weaken (by walk_at "sub")
  -- row
  refine wpAny_execs_cons (draws (k := 0 + 1) (n := 5) satk rfl rfl x4 hPs (by decide) (by rfl) (by decide) (by simp; omega) (Nat.le_of_ble_eq_true rfl) (Or.inl rfl) (fun s5 sat5 kx5 x5 => ?_) (by with_unfolding_all rfl) ?_ (by with_unfolding_all rfl) rfl (fun Cn => ⟨rfl, rfl, rfl⟩) rfl (by decide) rfl (by decide) rfl (by first | decide | (simp only [List.map_cons, List.map_nil]; decide)) (by intro _; rfl))
  · obtain ⟨r0, r1, r2, r3, r4, hrow, hb⟩ := row_form (xs.take 10) (0 + 1)
    rw [hrow] at sat5
    have kx5' := kx4.trans kx5
    have ff := fOf_facts (kind := drawL (xs.take 10) 0 3) hb
    have hmul : ∀ {a b : Int} {i j : Nat}, a.natAbs ≤ i → b.natAbs ≤ j → (a * b).natAbs ≤ i * j := fun h1 h2 => by rw [Int.natAbs_mul]; exact Nat.mul_le_mul h1 h2
    obtain ⟨b0, b1, b2, b3, b4⟩ := id hb
    -- f, part
    have bpow : (r1 ^ 2).natAbs ≤ 9 := by rw [Int.natAbs_pow]; exact Nat.pow_le_pow_left b1 2
    have b40 : (4 * r0).natAbs ≤ 12 := hmul (i := 4) (by decide) b0
    have b402 := hmul b40 b2
    have bsub : (r1 ^ 2 - 4 * r0 * r2).natAbs ≤ 45 := by omega
    refine Ex1.stepR (Ex1.assignTs (xs := ["f", "part"]) (Ev.tup (as := [.zs (trimL [r0, r1, r2, r3, r4]), .int (r3 * (r1 ^ 2 - 4 * r0 * r2))]) (Evs.cons (Ev.call gf_ztrim if_ztrim (Evs.cons Ev.name .nil) (c_ztrim (by simp))) (Evs.cons
      (Ev.mul (Ev.idx (k := 3) (n := r3) Ev.name Ev.int (by decide) (by decide) rfl) (Ev.sub (Ev.pow (n := 2) (Ev.idx (k := 1) (n := r1) Ev.name Ev.int (by decide) (by decide) rfl) Ev.int (Sm.small (by omega)) (by decide) (by decide)) (Ev.mul (Ev.mul Ev.int (Ev.idx (k := 0) (n := r0) Ev.name Ev.int (by decide) (by decide) rfl) (Sm.small (by decide)) (Sm.small (by omega))) (Ev.idx (k := 2) (n := r2) Ev.name Ev.int (by decide) (by decide) rfl) (Sm.small (by omega)) (Sm.small (by omega)))) (Sm.small (by omega)) (Sm.small (by show (r1 ^ 2 - 4 * r0 * r2).natAbs ≤ 1000000; omega))) .nil))) (by walk_at "kd2") rfl) sat5 fun s6 k6 sat6 => ?_
    have x6 := x5.ks (sat5.ks k6)
    have kx6 := kx5'.trans k6.kx
    generalize hkd : drawL (xs.take 10) 0 3 = kind at *
    generalize hpt : r3 * (r1 ^ 2 - 4 * r0 * r2) = part at *
    have sm1 : SmL (trimL [r0, r1, r2]) := SmL.ofNb (k := 12) (show nrm _ ≤ 2 ^ 12 from Nat.le_trans (nrm_trim _) (by simp only [nrm]; omega)) (by decide)
    have nb2 : Nb 12 (trimL [r0, r1]) := Nat.le_trans (nrm_trim _) (by simp only [nrm]; omega)
    have nb3 : Nb 12 (trimL [r2, r3]) := Nat.le_trans (nrm_trim _) (by simp only [nrm]; omega)
    have l1 := trimL_length [r0, r1, r2]
    have l2 := trimL_length [r0, r1]
    have l3 := trimL_length [r2, r3]
    have l4 := mulL_length (trimL [r0, r1, r2]) (trimL [r0, r1, r2])
    simp only [List.length_cons, List.length_nil] at l1 l2 l3
    have nb1 : Nb 12 (trimL [r0, r1, r2]) := (show nrm _ ≤ 2 ^ 12 from Nat.le_trans (nrm_trim _) (by simp only [nrm]; omega))
    have pw := powG_nb 3 3 (Nat.le_refl _) 0 12 [1] (trimL [r0, r1]) (by decide : 1 ≤ 2 ^ 0) nb2
    simp only [List.length_cons, List.length_nil] at pw
    refine wpAny_execs_cons ((Ex1.ite (K := fun o => ∃ ρ', o = .next ρ' ∧ Sub [("f", .b (.zs (fOf kind [r0, r1, r2, r3, r4]))), ("kind", .b (.int kind)), ("part", .b (.int part)), ("pool", .b (.ref P))] ρ') (Tr.cmp Ev.name Ev.int Cmp.eq) (fun hc => ?_) (fun hc => ?_)) s6 _ sat6 fun o fl s7 hK k7 ho => ?_)
    · have hc' : kind = 1 := by simpa using hc
      have ef : fOf kind [r0, r1, r2, r3, r4] = scaleL (mulL (trimL [r0, r1, r2]) (trimL [r0, r1, r2])) r3 := by unfold fOf; rw [if_pos hc']; rfl
      rw [ef]
      exact Ex.step (Ex1.assign (Ev.call gf_zscale if_zscale (Evs.cons (Ev.call gf_zmul if_zmul (Evs.cons (Ev.call gf_ztrim if_ztrim (Evs.cons (Ev.sliceTo (xs := [r0, r1, r2, r3, r4]) (b := 3) Ev.name Ev.int (by decide) (by simp)) .nil) (c_ztrim (by simp))) (Evs.cons (Ev.call gf_ztrim if_ztrim (Evs.cons (Ev.sliceTo (xs := [r0, r1, r2, r3, r4]) (b := 3) Ev.name Ev.int (by decide) (by simp)) .nil) (c_ztrim (by simp))) .nil)) (c_zmul (by show (trimL [r0, r1, r2]).length ≤ 400; omega) (by show (trimL [r0, r1, r2]).length ≤ 400; omega) sm1 sm1)) (Evs.cons (Ev.idx (k := 3) (n := r3) Ev.name Ev.int (by decide) (by decide) rfl) .nil)) (c_zscale (by show (mulL (trimL [r0, r1, r2]) (trimL [r0, r1, r2])).length ≤ 900000; omega) (SmL.ofNb (nb1.mul nb1) (by decide)) (Sm.small (by omega))))) (Ex.nil ⟨_, rfl, by walk_at "sub"⟩)
    · have hc1 : ¬ kind = 1 := by simpa using hc
      refine Ex.cons (Ex1.ite (K := fun o => ∃ ρ', o = .next ρ' ∧ Sub [("f", .b (.zs (fOf kind [r0, r1, r2, r3, r4]))), ("kind", .b (.int kind)), ("part", .b (.int part)), ("pool", .b (.ref P))] ρ') (Tr.cmp Ev.name Ev.int Cmp.eq) (fun hc => ?_) (fun hc => ?_)) (fun ρ' hρ => Ex.nil hρ) (fun a h => by obtain ⟨_, h, _⟩ := h; cases h)
      · have hc2 : kind = 2 := by simpa using hc
        have ef : fOf kind [r0, r1, r2, r3, r4] = mulL (powG [1] (trimL [r0, r1]) 3) (trimL [r2, r3]) := by unfold fOf; rw [if_neg hc1, if_pos hc2]; rfl
        rw [ef]
        exact Ex.step (Ex1.assign (Ev.call gf_zmul if_zmul (Evs.cons (Ev.call gf_zpower if_zpower (Evs.cons (Ev.call gf_ztrim if_ztrim (Evs.cons (Ev.sliceTo (xs := [r0, r1, r2, r3, r4]) (b := 2) Ev.name Ev.int (by decide) (by simp)) .nil) (c_ztrim (by simp))) (Evs.cons Ev.int .nil)) (c_zpower (xs := trimL [r0, r1]) (m := 3) (by omega) (by omega) (by decide) nb2)) (Evs.cons (Ev.call gf_ztrim if_ztrim (Evs.cons (Ev.sliceRun (xs := [r0, r1, r2, r3, r4]) (a := 2) (b := 4) Ev.name Ev.int Ev.int (by decide) (by decide) (by simp)) .nil) (c_ztrim (by simp))) .nil)) (c_zmul (xs := powG [1] (trimL [r0, r1]) 3) (ys := trimL [r2, r3]) (by omega) (by omega) (SmL.ofNb pw.1 (by decide)) (SmL.ofNb nb3 (by decide))))) (Ex.nil ⟨_, rfl, by walk_at "sub"⟩)
      · have hc2 : ¬ kind = 2 := by simpa using hc
        have ef : fOf kind [r0, r1, r2, r3, r4] = trimL [r0, r1, r2, r3, r4] := by unfold fOf; rw [if_neg hc1, if_neg hc2]
        rw [ef]
        exact Ex.nil ⟨_, rfl, by walk_at "sub"⟩
    obtain ⟨ρ7, rfl, hsub⟩ := hK
    obtain ⟨rfl, sat7⟩ := ho
    replace sat7 := sat7.weaken hsub
    clear hsub
    have x7 := x6.ks (sat6.ks k7)
    have kx7 := kx6.trans k7.kx
    generalize hfo : fOf kind [r0, r1, r2, r3, r4] = f at *
    have bpt : part.natAbs ≤ 135 := by rw [← hpt]; exact Nat.le_trans (hmul b3 bsub) (by decide)
    have HH := fun p q r t hm => H kind r0 r1 r2 r3 r4 p q r t hb hm
    rw [hpt] at HH
    rw [hfo] at HH
    clear H hpt hfo hkd bpow b40 b402 bsub sm1 nb1 nb2 nb3 l1 l2 l3 l4 pw
    -- move
    obtain ⟨pf, us, plf, iaf, sat7d⟩ := sat7.down (x := "f") (xs := f) rfl
    have hpf := x7.apart plf iaf
    have sat7e : Sat _ [("pool", .b (.ref P)), ("kind", .b (.int kind)), ("part", .b (.int part)), ("f", .b (.ref pf))] s7 := sat7d.weaken (by walk_at "sub")
    refine wpAny_execs_cons (draws (k := 0 + 1 + 5) (n := 4) sat7e rfl rfl x7 hPs (by decide) (by rfl) (by decide) (by simp; omega) (Nat.le_of_ble_eq_true rfl) (Or.inl rfl) (fun s8 sat8 kx8 x8 => ?_) (by with_unfolding_all rfl) ?_ (by with_unfolding_all rfl) rfl (fun Cn => ⟨rfl, rfl, rfl⟩) rfl (by decide) rfl (by decide) rfl (by first | decide | (simp only [List.map_cons, List.map_nil]; decide)) (by intro _; rfl))
    · obtain ⟨p, q, r, t, hmv, hbm⟩ := move_form (xs.take 10) (0 + 1 + 5)
      rw [hmv] at sat8
      obtain ⟨nf, ef⟩ := plf
      have offf := sat7e.off ef
      have plf8 : s8.heap.PlainList pf us.toArray := ⟨nf, kx8.keep _ _ offf.1 offf.2 (by simpa using hpf) ef⟩
      have sat8u := sat8.up (x := "f") (a := pf) (b := .b (.zs f)) rfl ⟨pf, us, rfl, plf8, iaf⟩
      have sat9 : Sat _ [("kind", .b (.int kind)), ("part", .b (.int part)), ("f", .b (.zs f)), ("move", .b (.zs [p, q, r, t]))] s8 := sat8u.weaken (by walk_at "sub")
      have kx9 := kx7.trans kx8
      have L := HH p q r t hbm
      clear HH
      obtain ⟨lf, nf12⟩ := ff
      obtain ⟨bp, bq, br, bt⟩ := hbm
      have l0 := trimL_length [p, q]
      have l1 := trimL_length [r, t]
      have n0 : Nb 2 (trimL [p, q]) := Nat.le_trans (nrm_trim _) (by simp only [nrm]; omega)
      have n1 : Nb 2 (trimL [r, t]) := Nat.le_trans (nrm_trim _) (by simp only [nrm]; omega)
      simp only [List.length_cons, List.length_nil] at l0 l1
      have bqr := hmul bq br
      have bpt' := hmul bp bt
      have bby : (q * r - p * t).natAbs ≤ 8 := by omega
      refine Ex.use (K := fun o => o = .ret (.b (.bool true))) ?_ sat9 fun o fl s10 hK k10 ho => ?_
      · clear hQ hs s0none sat2 sat3 sat4 sat5 sat6 sat7 sat7d sat7e sat8 sat8u sat9 satp satk x1 x2 x3 x4 x5 x6 x7 x8 kx2 kx3 kx4 kx5 kx5' kx6 kx7 kx8 kx9
        have hl2 := L.len2
        have hl3 := L.len3
        have hlW := L.lenW
        obtain ⟨_, ns⟩ := secondL_facts lf nf12
        obtain ⟨_, nt⟩ := thirdL_facts lf nf12
        obtain ⟨_, nw⟩ := movedG_facts (many := 4) l0 l1 n0 n1 nf12 f.length lf
        have nW : Nb 30 (movedL f 4 (trimL [p, q]) (trimL [r, t])) := Nb.le nw (Nat.add_le_add_left (le1 lf (by decide : 5 ≤ 10)) _)
        obtain ⟨_, nw2⟩ := movedG_facts (many := 4) l0 l1 n0 n1 ns (secondL f).length hl2
        have nW2 : Nb 70 (movedL (secondL f) 4 (trimL [p, q]) (trimL [r, t])) := Nb.le nw2 (Nat.add_le_add_left (le1 hl2 (by decide : 5 ≤ 15)) _)
        obtain ⟨lw3, nw3⟩ := movedG_facts (many := 6) l0 l1 n0 n1 nt (thirdL f).length hl3
        obtain ⟨lw2, _⟩ := movedG_facts (many := 4) l0 l1 n0 n1 ns (secondL f).length hl2
        have nW3 : Nb 100 (movedL (thirdL f) 6 (trimL [p, q]) (trimL [r, t])) := Nb.le nw3 (Nat.add_le_add_left (le1 hl3 (by decide : 7 ≤ 17)) _)
        have lW2 : (movedL (secondL f) 4 (trimL [p, q]) (trimL [r, t])).length ≤ 10 := lw2
        have lW3 : (movedL (thirdL f) 6 (trimL [p, q]) (trimL [r, t])).length ≤ 14 := lw3
        have bI : Bd 30 (ofPad numI f) := Bd.numI (k := 12) (nf12.get 0) (nf12.get 1) (nf12.get 2) (nf12.get 3) (nf12.get 4)
        have bJ : Bd 47 (ofPad numJ f) := Bd.numJ (k := 12) (nf12.get 0) (nf12.get 1) (nf12.get 2) (nf12.get 3) (nf12.get 4)
        have bP : Bd 8 part := le1 bpt (by decide)
        have bB : Bd 3 (q * r - p * t) := bby
        have sv : ∀ {j : Nat} {xs : List Int}, Nb j xs → j ≤ 2000 → SmL xs := fun h hj => SmL.ofNb h (Nat.lt_of_le_of_lt hj (by decide))
        have nsq : Nb 24 (mulL f f) := nf12.mul nf12
        have lsq : (mulL f f).length ≤ 10 := mul_len lf lf
        have cl : ∀ {j : Nat} {xs : List Int}, xs.length ≤ j → j ≤ 400 → xs.length ≤ 900000 := fun h hj => le1 h (le1 hj (by decide))
        clear bby hmul bqr bpt' lw2 lw3
        refine Ex.step (Ex1.assignTT (xs := ["lines", "by"]) (as := [.tup [.zs (trimL [p, q]), .zs (trimL [r, t])], .b (.int (q * r - p * t))]) (Evs.cons (Ev.tup (as := [.zs (trimL [p, q]), .zs (trimL [r, t])]) (Evs.cons (Ev.call gf_ztrim if_ztrim (Evs.cons (Ev.sliceTo (xs := [p, q, r, t]) (b := 2) Ev.name Ev.int (by decide) (by simp)) .nil) (c_ztrim (by simp))) (Evs.cons (Ev.call gf_ztrim if_ztrim (Evs.cons (Ev.sliceFrom (xs := [p, q, r, t]) (b := 2) Ev.name Ev.int (by decide) (by simp)) .nil) (c_ztrim (by simp))) .nil)))
          (Evs.cons (Ev.sub (Ev.mul (Ev.idx (k := 1) (n := q) Ev.name Ev.int (by decide) (by decide) rfl) (Ev.idx (k := 2) (n := r) Ev.name Ev.int (by decide) (by decide) rfl) (Sm.small (le1 bq (by decide))) (Sm.small (le1 br (by decide)))) (Ev.mul (Ev.idx (k := 0) (n := p) Ev.name Ev.int (by decide) (by decide) rfl) (Ev.idx (k := 3) (n := t) Ev.name Ev.int (by decide) (by decide) rfl) (Sm.small (le1 bp (by decide))) (Sm.small (le1 bt (by decide))))) .nil)) (by walk_at "kd2") rfl) ?_
        clear bp bq br bt bpt
        generalize hby : q * r - p * t = by' at *
        generalize hl0' : trimL [p, q] = L0 at *
        generalize hl1' : trimL [r, t] = L1 at *
        refine Ex.step (Ex1.assignT (xs := ["one", "other"]) (Ev.call gf_law_numbers if_law_numbers (Evs.cons Ev.name .nil) (c_numbers lf nf12 (by decide))) isNames2 (by walk_at "kd2") rfl) ?_
        refine Ex.step (Ex1.assignT (xs := ["second", "third"]) (Ev.call gf_law_slopes if_law_slopes (Evs.cons Ev.name .nil) (c_slopes lf nf12 (by decide))) isNames2 (by walk_at "kd2") rfl) ?_
        refine Ex.ifelse (Tr.not (Tr.val (Ev.call gf_law_alone_right if_law_alone_right (Evs.cons Ev.name (Evs.cons Ev.name (Evs.cons Ev.name .nil))) L.alone))) (fun hc => by cases hc) (fun _ => Ex.nil ?_)
        refine Ex.sub (ρ' := [("f", .b (.zs f)), ("kind", .b (.int kind)), ("part", .b (.int part)), ("one", .b (.int (ofPad numI f))), ("other", .b (.int (ofPad numJ f))), ("second", .b (.zs (secondL f))), ("third", .b (.zs (thirdL f))), ("lines", .tup [.zs L0, .zs L1]), ("by", .b (.int by'))]) ?_ (by walk_at "sub")
        have hsqr := L.square
        have hsyz := L.syz
        have hcI := L.covI
        have hcJ := L.covJ
        have hcS := L.covS
        have hcT := L.covT
        rw [hl0', hl1', hby] at hcI hcJ hcS hcT
        clear L
        refine Ex.ifelse (b := (kind == 1) && false) (Tr.and (Tr.cmp Ev.name Ev.int Cmp.eq) fun hk => ?_) (fun hc => by simp at hc) (fun _ => Ex.nil ?_)
        · obtain ⟨e1, e2, e3, e4⟩ := hsqr (by simpa using hk)
          have bp3 : Bd (8 * 3) (part ^ 3) := bP.pow 3
          have bPm : Bd 12 (-12 * part) := (show Bd 4 (-12) from (by decide : 12 ≤ 2 ^ 4)).mul bP
          refine Tr.cmp (a := .tup [.int (ofPad numI f), .int (ofPad numJ f), .zs (secondL f), .zs (thirdL f)]) (b := .tup [.int (part ^ 2), .int (-2 * part ^ 3), .zs (scaleL f (-12 * part)), .zs []]) ?_ ?_ ?_
          · refine Ev.tup (as := [.int (ofPad numI f), .int (ofPad numJ f), .zs (secondL f), .zs (thirdL f)]) ?_
            refine Evs.cons ?_ ?_
            · exact Ev.name
            refine Evs.cons ?_ ?_
            · exact Ev.name
            refine Evs.cons ?_ ?_
            · exact Ev.name
            refine Evs.cons ?_ ?_
            · exact Ev.name
            exact .nil
          · refine Ev.tup (as := [.int (part ^ 2), .int (-2 * part ^ 3), .zs (scaleL f (-12 * part)), .zs []]) ?_
            refine Evs.cons ?_ ?_
            · exact Ev.pow (n := 2) Ev.name Ev.int (bP.sm (by decide)) (by decide) (by decide)
            refine Evs.cons ?_ ?_
            · exact Ev.mul (Ev.neg Ev.int) (Ev.pow (n := 3) Ev.name Ev.int (bP.sm (by decide)) (by decide) (by decide)) (Sm.small (by decide)) (bp3.sm (by decide))
            refine Evs.cons ?_ ?_
            · exact Ev.call gf_zscale if_zscale (Evs.cons Ev.name (Evs.cons (Ev.mul (Ev.neg Ev.int) Ev.name (Sm.small (by decide)) (bP.sm (by decide))) .nil)) (c_zscale (le1 lf (by decide)) (sv nf12 (by decide)) (bPm.sm (by decide)))
            refine Evs.cons ?_ ?_
            · exact Ev.listI (xs := []) .nil
            exact .nil
          · exact Cmp.neT' (by rw [e1, e2, e3, e4]) (.cons (.int _) (.cons (.int _) (.cons (.zs _) (.cons (.zs _) .nil))))
        have nfs := nsq.mul ns
        have nff := nsq.mul nf12
        have nss := ns.mul (ns.mul ns)
        have ntt := nt.mul nt
        have lfs := mul_len lsq hl2
        have lff := mul_len lsq lf
        have ls2 := mul_len hl2 hl2
        have lss := mul_len hl2 ls2
        have ltt := mul_len hl3 hl3
        have b69 : Bd 13 6912 := (by decide : 6912 ≤ 2 ^ 13)
        have b27 : Bd 15 (-27648) := (by decide : 27648 ≤ 2 ^ 15)
        have bI' : Bd 43 (6912 * ofPad numI f) := b69.mul bI
        have bJ' : Bd 62 (-27648 * ofPad numJ f) := b27.mul bJ
        refine Ex.step (Ex1.assign (a := .b (.zs (mulL f f))) ?_) ?_
        · exact Ev.call gf_zmul if_zmul (Evs.cons Ev.name (Evs.cons Ev.name .nil)) (c_zmul (le1 lf (by decide)) (le1 lf (by decide)) (sv nf12 (by decide)) (sv nf12 (by decide)))
        refine Ex.step (Ex1.assign (a := .b (.zs (addL (scaleL (mulL (mulL f f) (secondL f)) (6912 * ofPad numI f)) (scaleL (mulL (mulL f f) f) (-27648 * ofPad numJ f))))) ?_) ?_
        · refine Ev.call gf_zadd if_zadd (as := [.b (.zs (scaleL (mulL (mulL f f) (secondL f)) (6912 * ofPad numI f))), .b (.zs (scaleL (mulL (mulL f f) f) (-27648 * ofPad numJ f)))]) ?_ (c_zadd (le1 (scale_len lfs) (by decide)) (le1 (scale_len lff) (by decide)))
          refine Evs.cons ?_ (Evs.cons ?_ .nil)
          · exact Ev.call gf_zscale if_zscale (Evs.cons (Ev.call gf_zmul if_zmul (Evs.cons Ev.name (Evs.cons Ev.name .nil)) (c_zmul (le1 lsq (by decide)) (le1 hl2 (by decide)) (sv nsq (by decide)) (sv ns (by decide)))) (Evs.cons (Ev.mul Ev.int Ev.name (b69.sm (by decide)) (bI.sm (by decide))) .nil)) (c_zscale (le1 lfs (by decide)) (sv nfs (by decide)) (bI'.sm (by decide)))
          · exact Ev.call gf_zscale if_zscale (Evs.cons (Ev.call gf_zmul if_zmul (Evs.cons Ev.name (Evs.cons Ev.name .nil)) (c_zmul (le1 lsq (by decide)) (le1 lf (by decide)) (sv nsq (by decide)) (sv nf12 (by decide)))) (Evs.cons (Ev.mul (Ev.neg Ev.int) Ev.name (b27.sm (by decide)) (bJ.sm (by decide))) .nil)) (c_zscale (le1 lff (by decide)) (sv nff (by decide)) (bJ'.sm (by decide)))
        refine Ex.ifelse (Tr.cmp (a := .b (.zs (scaleL (mulL (thirdL f) (thirdL f)) 9))) (b := .b (.zs (subL (addL (scaleL (mulL (mulL f f) (secondL f)) (6912 * ofPad numI f)) (scaleL (mulL (mulL f f) f) (-27648 * ofPad numJ f))) (scaleL (mulL (secondL f) (mulL (secondL f) (secondL f))) 16)))) ?_ ?_ Cmp.neL) (fun hc => ?_) (fun _ => Ex.nil ?_)
        · exact Ev.call gf_zscale if_zscale (Evs.cons (Ev.call gf_zmul if_zmul (Evs.cons Ev.name (Evs.cons Ev.name .nil)) (c_zmul (le1 hl3 (by decide)) (le1 hl3 (by decide)) (sv nt (by decide)) (sv nt (by decide)))) (Evs.cons Ev.int .nil)) (c_zscale (le1 ltt (by decide)) (sv ntt (by decide)) (Sm.small (by decide)))
        · exact Ev.call gf_zsub if_zsub (Evs.cons Ev.name (Evs.cons (Ev.call gf_zscale if_zscale (Evs.cons (Ev.call gf_zmul if_zmul (Evs.cons Ev.name (Evs.cons (Ev.call gf_zmul if_zmul (Evs.cons Ev.name (Evs.cons Ev.name .nil)) (c_zmul (le1 hl2 (by decide)) (le1 hl2 (by decide)) (sv ns (by decide)) (sv ns (by decide)))) .nil)) (c_zmul (le1 hl2 (by decide)) (le1 ls2 (by decide)) (sv ns (by decide)) (sv (ns.mul ns) (by decide)))) (Evs.cons Ev.int .nil)) (c_zscale (le1 lss (by decide)) (sv nss (by decide)) (Sm.small (by decide)))) .nil)) (c_zsub (le1 (add_len (m := 15) (scale_len lfs) (scale_len lff)) (by decide)) (le1 (scale_len lss) (by decide)))
        · exfalso
          rw [hsyz] at hc
          simp at hc
        refine Ex.sub (ρ' := [("f", .b (.zs f)), ("one", .b (.int (ofPad numI f))), ("other", .b (.int (ofPad numJ f))), ("second", .b (.zs (secondL f))), ("third", .b (.zs (thirdL f))), ("lines", .tup [.zs L0, .zs L1]), ("by", .b (.int by'))]) ?_ (by walk_at "sub")
        refine Ex.step (Ex1.assign (a := .b (.zs (movedL f 4 L0 L1))) ?_) ?_
        · exact Ev.call gf_law_moved if_law_moved (Evs.cons Ev.name (Evs.cons Ev.int (Evs.cons Ev.name .nil))) (c_moved (many := 4) lf (by decide) l0 l1 n0 n1 nf12 (by decide) (by decide))
        refine Ex.ifelse (Tr.cmp (a := .tup [.int (ofPad numI (movedL f 4 L0 L1)), .int (ofPad numJ (movedL f 4 L0 L1))]) (b := .tup [.int (ofPad numI f * by' ^ 4), .int (ofPad numJ f * by' ^ 6)]) ?_ ?_ (Cmp.neT' (by rw [hcI, hcJ]) (.cons (.int _) (.cons (.int _) .nil)))) (fun hc => by cases hc) (fun _ => Ex.nil ?_)
        · exact Ev.call gf_law_numbers if_law_numbers (Evs.cons Ev.name .nil) (c_numbers hlW nW (by decide))
        · refine Ev.tup (as := [.int (ofPad numI f * by' ^ 4), .int (ofPad numJ f * by' ^ 6)]) (Evs.cons ?_ (Evs.cons ?_ .nil))
          · exact Ev.mul Ev.name (Ev.pow (n := 4) Ev.name Ev.int (bB.sm (by decide)) (by decide) (by decide)) (bI.sm (by decide)) ((bB.pow 4).sm (by decide))
          · exact Ev.mul Ev.name (Ev.pow (n := 6) Ev.name Ev.int (bB.sm (by decide)) (by decide) (by decide)) (bJ.sm (by decide)) ((bB.pow 6).sm (by decide))
        refine Ex.step (Ex1.assign (a := .tup [.zs (scaleL (movedL (secondL f) 4 L0 L1) (by' ^ 2)), .zs (scaleL (movedL (thirdL f) 6 L0 L1) (by' ^ 3))]) ?_) ?_
        · refine Ev.tup (as := [.zs (scaleL (movedL (secondL f) 4 L0 L1) (by' ^ 2)), .zs (scaleL (movedL (thirdL f) 6 L0 L1) (by' ^ 3))]) (Evs.cons ?_ (Evs.cons ?_ .nil))
          · exact Ev.call gf_zscale if_zscale (Evs.cons (Ev.call gf_law_moved if_law_moved (Evs.cons Ev.name (Evs.cons Ev.int (Evs.cons Ev.name .nil))) (c_moved (many := 4) hl2 (by decide) l0 l1 n0 n1 ns (by decide) (by decide))) (Evs.cons (Ev.pow (n := 2) Ev.name Ev.int (bB.sm (by decide)) (by decide) (by decide)) .nil)) (c_zscale (le1 lW2 (by decide)) (sv nW2 (by decide)) ((bB.pow 2).sm (by decide)))
          · exact Ev.call gf_zscale if_zscale (Evs.cons (Ev.call gf_law_moved if_law_moved (Evs.cons Ev.name (Evs.cons Ev.int (Evs.cons Ev.name .nil))) (c_moved (many := 6) hl3 (by decide) l0 l1 n0 n1 nt (by decide) (by decide))) (Evs.cons (Ev.pow (n := 3) Ev.name Ev.int (bB.sm (by decide)) (by decide) (by decide)) .nil)) (c_zscale (le1 lW3 (by decide)) (sv nW3 (by decide)) ((bB.pow 3).sm (by decide)))
        refine Ex.ret (a := .b (.bool true)) ?_ rfl
        refine Ev.cmp (a := .tup [.zs (secondL (movedL f 4 L0 L1)), .zs (thirdL (movedL f 4 L0 L1))]) (b := .tup [.zs (scaleL (movedL (secondL f) 4 L0 L1) (by' ^ 2)), .zs (scaleL (movedL (thirdL f) 6 L0 L1) (by' ^ 3))]) ?_ ?_ (Cmp.eqT' (by rw [hcS, hcT]) (.cons (.zs _) (.cons (.zs _) .nil)))
        · exact Ev.call gf_law_slopes if_law_slopes (Evs.cons Ev.name .nil) (c_slopes hlW nW (by decide))
        · exact Ev.name
      · cases hK
        refine hQ (.ret (.b (.bool true))) fl s10 rfl (KX.kf (kx9.trans k10.kx) fun b hb => ?_) ho
        rw [List.mem_singleton.mp hb]; exact hP
    · exact fun y hy => by simpa [callEnvC, newEnv, cellsFrom] using hy
  · exact fun y hy => by simpa [callEnvC, newEnv, cellsFrom] using hy
end Mine
end

section
namespace Mine
open PySem PySem.W PySem.Calls PyProof.Rows
theorem gf_law : Gf "law" 282 := by walk_at "gf"
theorem rl_of {P : Params} {h : Heap} {a : Addr} {xs : List Int} {vs : List Value} (w1 : Well P h (.ref a) (ofPy (PyData.list (xs.map PyData.int)))) (hL : h.IsList a vs.toArray) (hI : IntsAre vs xs) : RL h (.ref a) xs := by
  have e : ofPy (PyData.list (xs.map PyData.int)) = .list (ofPys (xs.map PyData.int)) := by simp only [ofPy]
  rw [e] at w1
  cases w1 with
  | @list _ vs' _ hg _ =>
    obtain ⟨o, ho, hc, n, hd⟩ := hL
    have := hg.symm.trans ho
    simp only [Option.some.injEq] at this
    subst this
    have hv : vs' = vs := by
      simp only [Data.seq.injEq] at hd
      simpa using hd.1
    subst hv
    exact ⟨a, vs', rfl, ⟨_, hg⟩, hI⟩
set_option maxRecDepth 100000 in
set_option maxHeartbeats 8000000 in
theorem t (H : ∀ kind r0 r1 r2 r3 r4 p q r t : Int, (r0.natAbs ≤ 3 ∧ r1.natAbs ≤ 3 ∧ r2.natAbs ≤ 3 ∧ r3.natAbs ≤ 3 ∧ r4.natAbs ≤ 3) → (p.natAbs ≤ 2 ∧ q.natAbs ≤ 2 ∧ r.natAbs ≤ 2 ∧ t.natAbs ≤ 2) → Law1 kind (r3 * (r1 ^ 2 - 4 * r0 * r2)) (fOf kind [r0, r1, r2, r3, r4]) p q r t) : PySem.Challenge.rw_xm0145_01.Holds := hd (by
  k_fill
  intro w s₀ s₁ mg mb G Y fa o pm cd doc dV kV ho hd hcd hD hmg hg args vals as hpre hlay hrd hwl hlo
  have KX : (KD w.params).In s₁.heap := Y
  refine Ground.open G ?_
  intro T B D TE TW
  have hfa : fa = 282 := by
    have h1 : mg "law" = some (.ref 282) := mg_of KX T.g (gf_law w)
    have h2 : mg "law" = some (.ref fa) := hmg
    rw [h1] at h2
    cases h2; rfl
  clear ho hd hcd hD hmg
  subst hfa
  have tp : Tp w s₁.heap := ⟨KX, mg, mb, topRead_of T⟩
  clear B D TE TW T KX Y G
  wrow_args hpre hlay hrd hwl hlo
  rename_i xs hs hlay0 hL1 hr1 hl2 x1 x2 a vs x3 hL ra w1 r0 hI hr hc1 hc2
  have hrl := rl_of w1 hL hI
  clear hs hlay0 hL1 hr1 hl2 hL ra w1 r0 hI hr hc2
  have room : Room callerA 12 := ⟨rfl, by decide +kernel, by decide +kernel⟩
  show wpAny (model pg w) callerA (PySem.call (.ref 282) [.ref a]) _ _ s₁
  refine of_nE (c_law (by omega) H w callerA s₁ [.ref a] _ room tp (.cons hrl .nil) fun v s' kp rv => ?_)
  have rv' : v = .bool true := rv
  subst rv'
  obtain ⟨h', tk, rfl, hk⟩ := kp
  refine GoodW.toG ⟨Or.inl ⟨_, .bool true, [], rfl, ?_, .bool true, ?_, ?_⟩, hk, rfl, hg⟩
  · intro cls
    rfl
  · wrow_post
  · intro _
    exact ⟨List.nodup_nil, fun a ha => nomatch ha⟩)
end Mine
end

section
namespace Mine

/-- a sum below n -/
noncomputable def S (f : Nat → Int) : Nat → Int
  | 0 => 0
  | n + 1 => S f n + f n
theorem S_congr {f g : Nat → Int} : ∀ n, (∀ i, i < n → f i = g i) → S f n = S g n
  | 0, _ => rfl
  | n + 1, h => by rw [S, S, S_congr n fun i hi => h i (by omega), h n (by omega)]
theorem S_add (f g : Nat → Int) : ∀ n, S (fun i => f i + g i) n = S f n + S g n
  | 0 => rfl
  | n + 1 => by rw [S, S, S, S_add f g n]; omega
theorem S_mul (k : Int) (f : Nat → Int) : ∀ n, S (fun i => k * f i) n = k * S f n
  | 0 => by simp [S]
  | n + 1 => by rw [S, S, S_mul k f n, Int.mul_add]
theorem S_zero {f : Nat → Int} : ∀ n, (∀ i, i < n → f i = 0) → S f n = 0
  | 0, _ => rfl
  | n + 1, h => by rw [S, S_zero n fun i hi => h i (by omega), h n (by omega)]; rfl
theorem S_ext {f : Nat → Int} {n : Nat} (h : ∀ i, n ≤ i → f i = 0) : ∀ m, n ≤ m → S f m = S f n
  | 0, hm => by have : n = 0 := by omega
                subst this; rfl
  | m + 1, hm => by
    by_cases e : n = m + 1
    · subst e; rfl
    · rw [S, S_ext h m (by omega), h m (by omega)]; omega
/-- a polynomial's value -/
noncomputable def ev (xs : List Int) (x : Int) : Int := S (fun i => xs.getD i 0 * x ^ i) xs.length
theorem getD_ge {xs : List Int} {i : Nat} (h : xs.length ≤ i) : xs.getD i 0 = 0 := by simp [List.getD, h]
theorem ev_ge {xs : List Int} {x : Int} {n : Nat} (h : xs.length ≤ n) : ev xs x = S (fun i => xs.getD i 0 * x ^ i) n :=
  (S_ext (fun i hi => by rw [getD_ge hi]; simp) n h).symm
theorem ev_coeff {xs ys : List Int} (h : ∀ i, xs.getD i 0 = ys.getD i 0) (x : Int) : ev xs x = ev ys x := by
  rw [ev_ge (n := max xs.length ys.length) (by omega), ev_ge (xs := ys) (n := max xs.length ys.length) (by omega)]
  exact S_congr _ fun i _ => by rw [h i]
theorem ev_nil (x : Int) : ev [] x = 0 := rfl
theorem trimL_getD (xs : List Int) (i : Nat) : (trimL xs).getD i 0 = xs.getD i 0 := by
  unfold trimL
  have h : ∀ (ys : List Int) (i : Nat), ((ys.dropWhile (· == 0)).reverse).getD i 0 = ys.reverse.getD i 0 := by
    intro ys
    induction ys with
    | nil => intro i; rfl
    | cons y r ih =>
      intro i
      by_cases hy : y = 0
      · subst hy
        rw [List.dropWhile_cons]
        simp only [beq_self_eq_true, if_true, List.reverse_cons]
        rw [ih i]
        by_cases hi : i < r.reverse.length
        · simp only [List.getD, List.getElem?_append_left hi]
        · rw [getD_ge (by omega)]
          by_cases hi2 : i = r.reverse.length
          · subst hi2; simp [List.getD]
          · rw [getD_ge (by simp at hi hi2 ⊢; omega)]
      · rw [List.dropWhile_cons]
        simp [hy]
  have := h xs.reverse i
  rwa [List.reverse_reverse] at this
theorem ev_trim (xs : List Int) (x : Int) : ev (trimL xs) x = ev xs x := ev_coeff (trimL_getD xs) x
theorem addL_getD (xs ys : List Int) (i : Nat) : (addL xs ys).getD i 0 = xs.getD i 0 + ys.getD i 0 := by
  unfold addL
  rw [trimL_getD]
  by_cases h : i < max xs.length ys.length
  · simp [List.getD, h]
  · rw [getD_ge (by simp; omega), getD_ge (xs := xs) (by omega), getD_ge (xs := ys) (by omega)]; rfl
theorem ev_add (xs ys : List Int) (x : Int) : ev (addL xs ys) x = ev xs x + ev ys x := by
  have hl := addL_length xs ys
  rw [ev_ge (n := max xs.length ys.length) hl, ev_ge (xs := xs) (n := max xs.length ys.length) (by omega), ev_ge (xs := ys) (n := max xs.length ys.length) (by omega), ← S_add]
  exact S_congr _ fun i _ => by rw [addL_getD, Int.add_mul]
theorem map_getD {xs : List Int} (F : Int → Int) (h0 : F 0 = 0) (i : Nat) : (xs.map F).getD i 0 = F (xs.getD i 0) := by
  by_cases h : i < xs.length
  · simp [List.getD, h]
  · rw [getD_ge (by simp; omega), getD_ge (by omega), h0]
theorem ev_neg (xs : List Int) (x : Int) : ev (negL xs) x = -ev xs x := by
  unfold ev negL
  rw [List.length_map, show -S (fun i => xs.getD i 0 * x ^ i) xs.length = (-1) * S (fun i => xs.getD i 0 * x ^ i) xs.length by omega, ← S_mul]
  refine S_congr _ fun i _ => ?_
  rw [map_getD (fun n => -n) rfl, Int.neg_mul, Int.neg_mul, Int.one_mul]
theorem ev_sub (xs ys : List Int) (x : Int) : ev (subL xs ys) x = ev xs x - ev ys x := by
  unfold subL
  rw [ev_add, ev_neg]; omega
theorem ev_scale (xs : List Int) (k x : Int) : ev (scaleL xs k) x = k * ev xs x := by
  unfold scaleL
  by_cases hk : k = 0
  · subst hk; simp [ev_nil]
  · rw [if_pos (by simpa using hk)]
    unfold ev
    rw [List.length_map, ← S_mul]
    refine S_congr _ fun i _ => ?_
    rw [map_getD (fun n => n * k) (by simp), Int.mul_comm _ k, Int.mul_assoc]
end Mine
end

section
namespace Mine
theorem ev_addAt {cur : List Int} {p : Nat} (h : p < cur.length) (v x : Int) : ev (addAt cur p v) x = ev cur x + v * x ^ p := by
  have e : ∀ i, (addAt cur p v).getD i 0 = cur.getD i 0 + (if i = p then v else 0) := by
    intro i
    unfold addAt
    by_cases hi : i = p
    · subst hi; simp [List.getD, h]
    · have : ¬ p = i := fun q => hi q.symm
      simp [List.getD, List.getElem?_set, this, hi]
  have hs : ∀ n, p < n → S (fun i => (if i = p then v else 0) * x ^ i) n = v * x ^ p := by
    intro n hn
    rw [S_ext (n := p + 1) (fun i hi => by rw [if_neg (by omega)]; simp) n (by omega), S, S_zero p (fun i hi => by rw [if_neg (by omega)]; simp)]
    simp
  unfold ev
  rw [addAt_length, ← hs cur.length h, ← S_add]
  exact S_congr _ fun i _ => by rw [e, Int.add_mul]
theorem ev_inner (i : Nat) (left : Int) (ys : List Int) (x : Int) : ∀ (j : Nat) (cur : List Int), i + j ≤ cur.length → ev (innerL cur i left ys j) x = ev cur x + left * x ^ i * S (fun k => ys.getD k 0 * x ^ k) j
  | 0, cur, _ => by simp [innerL, S]
  | j + 1, cur, h => by
    rw [innerL_succ, ev_addAt (by rw [innerL_length]; omega), ev_inner i left ys x j cur (by omega), S, Int.pow_add]
    grind
theorem ev_outer (xs ys : List Int) (x : Int) : ∀ i, i ≤ xs.length → 0 < ys.length → ev (outerL xs ys i) x = S (fun k => xs.getD k 0 * x ^ k) i * ev ys x
  | 0, _, _ => by
    have : ev (outerL xs ys 0) x = 0 := by
      unfold ev outerL
      refine S_zero _ fun i hi => ?_
      have : (List.replicate (xs.length + ys.length - 1) (0 : Int)).getD i 0 = 0 := by
        by_cases h : i < xs.length + ys.length - 1
        · simp [List.getD, h]
        · exact getD_ge (by simp; omega)
      simp only [List.range_zero, List.foldl_nil]
      rw [this]; simp
    rw [this]; simp [S]
  | i + 1, h, hy => by
    rw [outerL_succ, S]
    by_cases hz : xs.getD i 0 = 0
    · rw [if_neg (by simpa using hz), ev_outer xs ys x i (by omega) hy, hz]; simp
    · rw [if_pos (by simpa using hz), ev_inner i _ ys x ys.length _ (by rw [outerL_length]; omega), ev_outer xs ys x i (by omega) hy]
      show _ + xs.getD i 0 * x ^ i * ev ys x = _
      grind
theorem ev_mul (xs ys : List Int) (x : Int) : ev (mulL xs ys) x = ev xs x * ev ys x := by
  unfold mulL
  by_cases h : xs.length = 0 ∨ ys.length = 0
  · rw [if_pos h]
    rcases h with h | h
    · have : xs = [] := List.eq_nil_of_length_eq_zero h
      subst this; simp [ev_nil]
    · have : ys = [] := List.eq_nil_of_length_eq_zero h
      subst this; simp [ev_nil]
  · rw [if_neg h, ev_outer xs ys x _ (Nat.le_refl _) (by omega)]; rfl
theorem ev_cons (c : Int) (r : List Int) (x : Int) : ev (c :: r) x = c + x * ev r x := by
  have hs : ∀ n, S (fun i => (c :: r).getD i 0 * x ^ i) (n + 1) = c + x * S (fun i => r.getD i 0 * x ^ i) n := by
    intro n
    induction n with
    | zero => simp [S]
    | succ n ih =>
      rw [S, ih, S]
      have e : (c :: r).getD (n + 1) 0 = r.getD n 0 := rfl
      rw [e, Int.pow_succ]
      grind
  unfold ev
  exact hs r.length
theorem ev_raise (xs : List Int) (m : Nat) (x : Int) : ev (raiseL xs m) x = x ^ m * ev xs x := by
  unfold raiseL
  by_cases h : 0 < xs.length
  · rw [if_pos h]
    induction m with
    | zero => simp
    | succ m ih => rw [List.replicate_succ, List.cons_append, ev_cons, ih, Int.pow_succ]; grind
  · rw [if_neg h]
    have : xs = [] := List.eq_nil_of_length_eq_zero (by omega)
    subst this; simp [ev_nil]
theorem sq_ (a : Int) : a ^ 2 = a * a := by rw [Int.pow_succ, Int.pow_succ, Int.pow_zero, Int.one_mul]
theorem ev_powG (x : Int) : ∀ (n m : Nat), m ≤ n → ∀ fo fa : List Int, ev (powG fo fa m) x = ev fo x * ev fa x ^ m
  | 0, m, hm, fo, fa => by
    have : m = 0 := by omega
    subst this; rw [powG_zero]; simp
  | n + 1, m, hm, fo, fa => by
    by_cases h0 : m = 0
    · subst h0; rw [powG_zero]; simp
    · rw [powG, dif_neg h0, ev_powG x n (m / 2) (by omega)]
      by_cases h1 : 1 < m
      · rw [if_pos h1, ev_mul]
        by_cases hodd : m % 2 = 1
        · rw [if_pos hodd, ev_mul]
          have e : m = 2 * (m / 2) + 1 := by omega
          generalize m / 2 = q at *
          rw [e, Int.pow_succ, Int.pow_mul, sq_]
          grind
        · rw [if_neg hodd]
          have e : m = 2 * (m / 2) := by omega
          generalize m / 2 = q at *
          rw [e, Int.pow_mul, sq_]
      · have : m = 1 := by omega
        subst this
        rw [if_pos rfl, if_neg h1, ev_mul, Int.pow_succ]
        simp
end Mine
end

section
namespace Mine
/-- no zero at the end -/
noncomputable def Tm (xs : List Int) : Prop := xs ≠ [] → xs.getD (xs.length - 1) 0 ≠ 0
theorem trimL_tm (xs : List Int) : Tm (trimL xs) := by
  intro hne h
  have hh := hne
  unfold trimL at h hne
  generalize hd : xs.reverse.dropWhile (· == 0) = d at *
  cases d with
  | nil => exact hne rfl
  | cons y r =>
    have hy : (y == 0) = false := by
      have := List.head?_dropWhile_not (fun x : Int => x == 0) xs.reverse
      rw [hd] at this
      simpa using this
    simp [List.getD] at h
    simp [h] at hy
/-- big values of a list whose last is not 0 -/
theorem ev_big : ∀ xs : List Int, Tm xs → xs ≠ [] → ∃ N : Int, ∀ x, N ≤ x → 1 ≤ (ev xs x).natAbs
  | [], _, h => absurd rfl h
  | [c], ht, _ => ⟨0, fun x _ => by
      have hc : c ≠ 0 := by simpa [Tm, List.getD] using ht
      rw [ev_cons, ev_nil]; simp; omega⟩
  | c :: d :: r, ht, _ => by
    obtain ⟨N, hN⟩ := ev_big (d :: r) (fun _ => by
      have := ht (by simp)
      simpa [List.getD] using this) (by simp)
    refine ⟨max N (c.natAbs + 1), fun x hx => ?_⟩
    have h1 := hN x (by omega)
    rw [ev_cons]
    have h2 : (x * ev (d :: r) x).natAbs = x.natAbs * (ev (d :: r) x).natAbs := Int.natAbs_mul _ _
    have h3 : x.natAbs * 1 ≤ x.natAbs * (ev (d :: r) x).natAbs := Nat.mul_le_mul_left _ h1
    omega
/-- the same, more than any bound where the list is longer than 1 -/
theorem ev_unbounded {xs : List Int} (ht : Tm xs) (hl : 1 < xs.length) (B : Nat) : ∃ N : Int, ∀ x, N ≤ x → B < (ev xs x).natAbs := by
  match xs, hl with
  | c :: d :: r, _ =>
    obtain ⟨N, hN⟩ := ev_big (d :: r) (fun _ => by
      have := ht (by simp)
      simpa [List.getD] using this) (by simp)
    refine ⟨max N (c.natAbs + B + 1), fun x hx => ?_⟩
    have h1 := hN x (by omega)
    rw [ev_cons]
    have h2 : (x * ev (d :: r) x).natAbs = x.natAbs * (ev (d :: r) x).natAbs := Int.natAbs_mul _ _
    have h3 : x.natAbs * 1 ≤ x.natAbs * (ev (d :: r) x).natAbs := Nat.mul_le_mul_left _ h1
    omega
theorem Tm.nil_of {xs : List Int} (ht : Tm xs) (h : ∀ x, ev xs x = 0) : xs = [] := by
  by_cases hne : xs = []
  · exact hne
  · obtain ⟨N, hN⟩ := ev_big xs ht hne
    have := hN N (by omega)
    rw [h N] at this
    simp at this
/-- trimmed lists with the same values are the same -/
theorem Tm.ext {xs ys : List Int} (hx : Tm xs) (hy : Tm ys) (h : ∀ x, ev xs x = ev ys x) : xs = ys := by
  have h0 : subL xs ys = [] := Tm.nil_of (by unfold subL addL; exact trimL_tm _) fun x => by rw [ev_sub, h x]; omega
  have hc : ∀ i, xs.getD i 0 = ys.getD i 0 := fun i => by
    have := addL_getD xs (negL ys) i
    unfold subL at h0
    rw [h0] at this
    have e : (negL ys).getD i 0 = -ys.getD i 0 := map_getD (fun n => -n) rfl i
    rw [e] at this
    simp [List.getD] at this ⊢
    omega
  have hl : ∀ {xs ys : List Int}, Tm xs → (∀ i, xs.getD i 0 = ys.getD i 0) → xs.length ≤ ys.length := fun {xs ys} hx hc => by
    by_cases hne : xs = []
    · subst hne; simp
    · have h1 := hx hne
      rw [hc] at h1
      by_cases hlt : xs.length ≤ ys.length
      · exact hlt
      · have hp := List.length_pos_iff.mpr hne
        rw [getD_ge (by omega)] at h1; exact absurd rfl h1
  have hlen : xs.length = ys.length := Nat.le_antisymm (hl hx hc) (hl hy fun i => (hc i).symm)
  refine List.ext_getElem hlen fun i h1 h2 => ?_
  have := hc i
  simpa [List.getD, h1, h2] using this
end Mine
end

section
namespace Mine
theorem addAt_getD {cur : List Int} {p : Nat} (h : p < cur.length) (v : Int) (k : Nat) : (addAt cur p v).getD k 0 = cur.getD k 0 + (if k = p then v else 0) := by
  unfold addAt
  by_cases hi : k = p
  · subst hi; simp [List.getD, h]
  · have : ¬ p = k := fun q => hi q.symm
    simp [List.getD, List.getElem?_set, this, hi]
theorem innerL_getD (i : Nat) (left : Int) (ys : List Int) (k : Nat) : ∀ (j : Nat) (cur : List Int), i + j ≤ cur.length → (innerL cur i left ys j).getD k 0 = cur.getD k 0 + (if i ≤ k ∧ k < i + j then left * ys.getD (k - i) 0 else 0)
  | 0, cur, _ => by rw [if_neg (by omega)]; simp [innerL]
  | j + 1, cur, h => by
    rw [innerL_succ, addAt_getD (by rw [innerL_length]; omega), innerL_getD i left ys k j cur (by omega)]
    by_cases hk : k = i + j
    · subst hk
      rw [if_neg (by omega), if_pos rfl, if_pos (by omega), show i + j - i = j by omega]; omega
    · rw [if_neg hk]
      by_cases h2 : i ≤ k ∧ k < i + j
      · rw [if_pos h2, if_pos (by omega)]; omega
      · rw [if_neg h2, if_neg (by omega)]; omega
theorem outerL_top (xs ys : List Int) (hy : 0 < ys.length) : ∀ i, i ≤ xs.length → (∀ k, i + ys.length - 1 ≤ k → (outerL xs ys i).getD k 0 = 0) ∧ (0 < i → (outerL xs ys i).getD (i + ys.length - 2) 0 = xs.getD (i - 1) 0 * ys.getD (ys.length - 1) 0)
  | 0, _ => by
    refine ⟨fun k _ => ?_, fun h => absurd h (Nat.lt_irrefl _)⟩
    unfold outerL
    simp only [List.range_zero, List.foldl_nil]
    by_cases h : k < xs.length + ys.length - 1
    · simp [List.getD, h]
    · exact getD_ge (by simp; omega)
  | i + 1, hi => by
    obtain ⟨h1, _⟩ := outerL_top xs ys hy i (by omega)
    rw [outerL_succ]
    by_cases hz : xs.getD i 0 = 0
    · rw [if_neg (by simpa using hz)]
      refine ⟨fun k hk => h1 k (by omega), fun _ => ?_⟩
      rw [h1 _ (by omega), show i + 1 - 1 = i by omega, hz]; simp
    · rw [if_pos (by simpa using hz)]
      have hl := outerL_length xs ys i
      refine ⟨fun k hk => ?_, fun _ => ?_⟩
      · rw [innerL_getD i _ ys k _ _ (by omega), h1 k (by omega), if_neg (by omega)]; rfl
      · rw [innerL_getD i _ ys _ _ _ (by omega), h1 _ (by omega), if_pos (by omega), show i + 1 - 1 = i by omega, show i + 1 + ys.length - 2 - i = ys.length - 1 by omega]; omega
theorem Tm.mul {xs ys : List Int} (hx : Tm xs) (hy : Tm ys) : Tm (mulL xs ys) := by
  unfold mulL
  by_cases h : xs.length = 0 ∨ ys.length = 0
  · rw [if_pos h]; exact fun q => absurd rfl q
  · rw [if_neg h]
    intro _
    have h1 := (outerL_top xs ys (by omega) xs.length (Nat.le_refl _)).2 (by omega)
    rw [outerL_length, show xs.length + ys.length - 1 - 1 = xs.length + ys.length - 2 by omega, h1]
    exact Int.mul_ne_zero (hx (fun q => by subst q; simp at h)) (hy (fun q => by subst q; simp at h))
theorem Tm.scale {xs : List Int} (hx : Tm xs) (k : Int) : Tm (scaleL xs k) := by
  unfold scaleL
  by_cases hk : k = 0
  · subst hk; exact fun q => absurd rfl q
  · rw [if_pos (by simpa using hk)]
    intro hne
    rw [List.length_map, map_getD (fun n => n * k) (by simp)]
    exact Int.mul_ne_zero (hx (fun q => hne (by rw [q]; rfl))) hk
theorem Tm.neg {xs : List Int} (hx : Tm xs) : Tm (negL xs) := by
  intro hne
  unfold negL at hne ⊢
  rw [List.length_map, map_getD (fun n => -n) rfl]
  have := hx (fun q => hne (by rw [q]; rfl))
  omega
theorem Tm.add (xs ys : List Int) : Tm (addL xs ys) := trimL_tm _
theorem Tm.sub (xs ys : List Int) : Tm (subL xs ys) := trimL_tm _
theorem Tm.trim (xs : List Int) : Tm (trimL xs) := trimL_tm _
theorem Tm.nil : Tm [] := fun q => absurd rfl q
theorem Tm.powG : ∀ (n m : Nat), m ≤ n → ∀ fo fa : List Int, Tm fo → Tm fa → Tm (powG fo fa m)
  | 0, m, hm, fo, fa, h1, h2 => by
    have : m = 0 := by omega
    subst this; rw [powG_zero]; exact h1
  | n + 1, m, hm, fo, fa, h1, h2 => by
    by_cases h0 : m = 0
    · subst h0; rw [powG_zero]; exact h1
    · rw [Mine.powG, dif_neg h0]
      refine Tm.powG n (m / 2) (by omega) _ _ ?_ ?_
      · split
        · exact h1.mul h2
        · exact h1
      · split
        · exact h2.mul h2
        · exact h2
theorem deriveL_getD (xs : List Int) (i : Nat) : (deriveL xs).getD i 0 = xs.getD (i + 1) 0 * ((i + 1 : Nat) : Int) := by
  unfold deriveL
  by_cases h : i + 1 < xs.length
  · have h2 : 1 + i < xs.length := by omega
    simp [List.getD, h, h2, Nat.add_comm 1 i]
  · rw [getD_ge (by simp; omega), getD_ge (xs := xs) (by omega)]; simp
theorem Tm.derive {xs : List Int} (hx : Tm xs) : Tm (deriveL xs) := by
  intro hne
  have hl := deriveL_length xs
  have hp := List.length_pos_iff.mpr hne
  rw [deriveL_getD, hl, show xs.length - 1 - 1 + 1 = xs.length - 1 by omega]
  have hne' : xs ≠ [] := fun q => by rw [q] at hp; exact absurd hp (by decide)
  exact Int.mul_ne_zero (hx hne') (by omega)
theorem derive_coeff {xs ys : List Int} (h : ∀ i, xs.getD i 0 = ys.getD i 0) (x : Int) : ev (deriveL xs) x = ev (deriveL ys) x := ev_coeff (fun i => by rw [deriveL_getD, deriveL_getD, h]) x
end Mine
end

section
namespace Mine
/-- values everywhere the same: the coefficients are the same -/
theorem ev_inj {xs ys : List Int} (h : ∀ x, ev xs x = ev ys x) (i : Nat) : xs.getD i 0 = ys.getD i 0 := by
  have h0 : subL xs ys = [] := Tm.nil_of (by unfold subL addL; exact trimL_tm _) fun x => by rw [ev_sub, h x]; omega
  have := addL_getD xs (negL ys) i
  unfold subL at h0
  rw [h0] at this
  have e : (negL ys).getD i 0 = -ys.getD i 0 := map_getD (fun n => -n) rfl i
  rw [e] at this
  simp [List.getD] at this ⊢
  omega
theorem Tm.len_le {xs : List Int} {n : Nat} (ht : Tm xs) (h : ∀ i, n ≤ i → xs.getD i 0 = 0) : xs.length ≤ n := by
  by_cases hne : xs = []
  · subst hne; simp
  · have h1 := ht hne
    by_cases hlt : xs.length ≤ n
    · exact hlt
    · have hp := List.length_pos_iff.mpr hne
      exact absurd (h (xs.length - 1) (by omega)) h1
theorem Tm.ext2 {xs ys : List Int} (hx : Tm xs) (hy : Tm ys) (h : ∀ i, xs.getD i 0 = ys.getD i 0) : xs = ys := Tm.ext hx hy fun x => ev_coeff h x
theorem p1_ (x : Int) : x ^ 1 = x := by rw [Int.pow_succ, Int.pow_zero, Int.one_mul]
theorem ev1 {xs : List Int} (h : xs.length ≤ 1) (x : Int) : ev xs x = xs.getD 0 0 := by rw [ev_ge h]; simp [S, p1_]
theorem ev2 {xs : List Int} (h : xs.length ≤ 2) (x : Int) : ev xs x = xs.getD 0 0 + xs.getD 1 0 * x := by rw [ev_ge h]; simp [S, p1_]
theorem ev3 {xs : List Int} (h : xs.length ≤ 3) (x : Int) : ev xs x = xs.getD 0 0 + xs.getD 1 0 * x + xs.getD 2 0 * x ^ 2 := by rw [ev_ge h]; simp [S, p1_]
theorem ev4 {xs : List Int} (h : xs.length ≤ 4) (x : Int) : ev xs x = xs.getD 0 0 + xs.getD 1 0 * x + xs.getD 2 0 * x ^ 2 + xs.getD 3 0 * x ^ 3 := by rw [ev_ge h]; simp [S, p1_]
theorem ev5 {xs : List Int} (h : xs.length ≤ 5) (x : Int) : ev xs x = xs.getD 0 0 + xs.getD 1 0 * x + xs.getD 2 0 * x ^ 2 + xs.getD 3 0 * x ^ 3 + xs.getD 4 0 * x ^ 4 := by rw [ev_ge h]; simp [S, p1_]
theorem ev7 {xs : List Int} (h : xs.length ≤ 7) (x : Int) : ev xs x = xs.getD 0 0 + xs.getD 1 0 * x + xs.getD 2 0 * x ^ 2 + xs.getD 3 0 * x ^ 3 + xs.getD 4 0 * x ^ 4 + xs.getD 5 0 * x ^ 5 + xs.getD 6 0 * x ^ 6 := by rw [ev_ge h]; simp [S, p1_]
theorem subL_getD (xs ys : List Int) (i : Nat) : (subL xs ys).getD i 0 = xs.getD i 0 - ys.getD i 0 := by
  unfold subL
  rw [addL_getD, negL_getD]; omega
theorem xmul_getD (g : List Int) (i : Nat) : (mulL [0, 1] g).getD i 0 = if i = 0 then 0 else g.getD (i - 1) 0 := by
  have h := ev_inj (xs := mulL [0, 1] g) (ys := raiseL g 1) (fun x => by rw [ev_mul, ev_raise, ev2 (by decide)]; simp [p1_]) i
  rw [h, raiseL_getD]
  by_cases hi : i = 0
  · subst hi; simp
  · rw [if_neg (by omega), if_neg hi]
theorem besideL_getD (f : List Int) (m : Int) (i : Nat) : (besideL f m).getD i 0 = (m - i) * f.getD i 0 := by
  unfold besideL
  rw [subL_getD, scaleL_getD, xmul_getD]
  by_cases hi : i = 0
  · subst hi; simp; grind
  · rw [if_neg hi, deriveL_getD, show i - 1 + 1 = i by omega]; grind
end Mine
end

section
set_option maxHeartbeats 8000000
namespace Mine
noncomputable def s0 (e d c b a : Int) : Int := 24*c*e - 9*d*d
noncomputable def s1 (e d c b a : Int) : Int := 72*b*e - 12*c*d
noncomputable def s2 (e d c b a : Int) : Int := 144*a*e + 18*b*d - 12*c*c
noncomputable def s3 (e d c b a : Int) : Int := 72*a*d - 12*b*c
noncomputable def s4 (e d c b a : Int) : Int := 24*a*c - 9*b*b
noncomputable def t0 (e d c b a : Int) : Int := -288*b*e*e + 144*c*d*e - 36*d*d*d
noncomputable def t1 (e d c b a : Int) : Int := -1152*a*e*e - 144*b*d*e + 288*c*c*e - 72*c*d*d
noncomputable def t2 (e d c b a : Int) : Int := -1440*a*d*e + 720*b*c*e - 180*b*d*d
noncomputable def t3 (e d c b a : Int) : Int := -720*a*d*d + 720*b*b*e
noncomputable def t4 (e d c b a : Int) : Int := 1440*a*b*e - 720*a*c*d + 180*b*b*d
noncomputable def t5 (e d c b a : Int) : Int := 1152*a*a*e + 144*a*b*d - 288*a*c*c + 72*b*b*c
noncomputable def t6 (e d c b a : Int) : Int := 288*a*a*d - 144*a*b*c + 36*b*b*b
noncomputable def fx (e d c b a x : Int) : Int := e + d * x + c * x ^ 2 + b * x ^ 3 + a * x ^ 4
noncomputable def sx (e d c b a x : Int) : Int := s0 e d c b a * x ^ 0 + s1 e d c b a * x ^ 1 + s2 e d c b a * x ^ 2 + s3 e d c b a * x ^ 3 + s4 e d c b a * x ^ 4
noncomputable def tx (e d c b a x : Int) : Int := t0 e d c b a * x ^ 0 + t1 e d c b a * x ^ 1 + t2 e d c b a * x ^ 2 + t3 e d c b a * x ^ 3 + t4 e d c b a * x ^ 4 + t5 e d c b a * x ^ 5 + t6 e d c b a * x ^ 6
theorem syz (e d c b a x : Int) : 9 * (tx e d c b a x * tx e d c b a x) = 6912 * numI e d c b a * (fx e d c b a x * fx e d c b a x * sx e d c b a x) - 27648 * numJ e d c b a * (fx e d c b a x * fx e d c b a x * fx e d c b a x) - 16 * (sx e d c b a x * (sx e d c b a x * sx e d c b a x)) := by
  unfold tx sx fx numI numJ s0 s1 s2 s3 s4 t0 t1 t2 t3 t4 t5 t6
  grind
end Mine
end

section
set_option maxHeartbeats 4000000
namespace Mine
theorem getD_lit5 (a b c d e : Int) (i : Nat) (h : 5 ≤ i) : ([a, b, c, d, e] : List Int).getD i 0 = 0 := getD_ge (by simpa using h)
/-- second's values -/
theorem second_ev {f : List Int} (hl : f.length ≤ 5) (x : Int) : ev (secondL f) x = sx (f.getD 0 0) (f.getD 1 0) (f.getD 2 0) (f.getD 3 0) (f.getD 4 0) x := by
  have z5 : f.getD 5 0 = 0 := getD_ge hl
  have l1 := deriveL_length f
  have l2 := deriveL_length (deriveL f)
  have a1 := besideL_length f 4
  have a2 := besideL_length (besideL f 4) 3
  have a3 := besideL_length (deriveL f) 3
  unfold secondL
  rw [ev_sub, ev_mul, ev_mul, ev3 (xs := deriveL (deriveL f)) (by omega), ev7 (xs := besideL (besideL f 4) 3) (by omega), ev5 (xs := besideL (deriveL f) 3) (by omega)]
  simp only [deriveL_getD, besideL_getD, z5, getD_ge (xs := f) (i := 6) (by omega)]
  unfold sx s0 s1 s2 s3 s4
  generalize f.getD 0 0 = e
  generalize f.getD 1 0 = d
  generalize f.getD 2 0 = c
  generalize f.getD 3 0 = b
  generalize f.getD 4 0 = a
  grind
theorem second_tm (f : List Int) : Tm (secondL f) := Tm.sub _ _
theorem third_tm (f : List Int) : Tm (thirdL f) := Tm.sub _ _
/-- the list of second's coefficients, not trimmed -/
noncomputable def sL (f : List Int) : List Int := [ofPad s0 f, ofPad s1 f, ofPad s2 f, ofPad s3 f, ofPad s4 f]
noncomputable def tL (f : List Int) : List Int := [ofPad t0 f, ofPad t1 f, ofPad t2 f, ofPad t3 f, ofPad t4 f, ofPad t5 f, ofPad t6 f]
theorem second_getD {f : List Int} (hl : f.length ≤ 5) (i : Nat) : (secondL f).getD i 0 = (sL f).getD i 0 :=
  ev_inj (fun x => by rw [second_ev hl, ev5 (xs := sL f) (by simp [sL])]; simp [sL, sx, ofPad, p1_]) i
theorem second_len {f : List Int} (hl : f.length ≤ 5) : (secondL f).length ≤ 5 :=
  (second_tm f).len_le fun i hi => by rw [second_getD hl]; exact getD_ge (by simpa [sL] using hi)
/-- third's values -/
theorem third_ev {f : List Int} (hl : f.length ≤ 5) (x : Int) : ev (thirdL f) x = tx (f.getD 0 0) (f.getD 1 0) (f.getD 2 0) (f.getD 3 0) (f.getD 4 0) x := by
  have z5 : f.getD 5 0 = 0 := getD_ge hl
  have hs := second_len hl
  have zs5 : (secondL f).getD 5 0 = 0 := getD_ge hs
  have l1 := deriveL_length f
  have l2 := deriveL_length (secondL f)
  have a1 := besideL_length f 4
  have a2 := besideL_length (secondL f) 4
  unfold thirdL
  rw [ev_sub, ev_mul, ev_mul, ev4 (xs := deriveL f) (by omega), ev7 (xs := besideL (secondL f) 4) (by omega), ev7 (xs := besideL f 4) (by omega), ev4 (xs := deriveL (secondL f)) (by omega)]
  simp only [deriveL_getD, besideL_getD, z5, zs5, getD_ge (xs := f) (i := 6) (by omega), getD_ge (xs := secondL f) (i := 6) (by omega), second_getD hl]
  simp only [sL, List.getD_cons_zero, List.getD_cons_succ, ofPad]
  unfold tx t0 t1 t2 t3 t4 t5 t6 s0 s1 s2 s3 s4
  generalize f.getD 0 0 = e
  generalize f.getD 1 0 = d
  generalize f.getD 2 0 = c
  generalize f.getD 3 0 = b
  generalize f.getD 4 0 = a
  grind
theorem third_getD {f : List Int} (hl : f.length ≤ 5) (i : Nat) : (thirdL f).getD i 0 = (tL f).getD i 0 :=
  ev_inj (fun x => by rw [third_ev hl, ev7 (xs := tL f) (by simp [tL])]; simp [tL, tx, ofPad, p1_]) i
theorem third_len {f : List Int} (hl : f.length ≤ 5) : (thirdL f).length ≤ 7 :=
  (third_tm f).len_le fun i hi => by rw [third_getD hl]; exact getD_ge (by simpa [tL] using hi)
/-- the syzygy, as the law has it -/
theorem syzL {f : List Int} (hl : f.length ≤ 5) (ht : Tm f) : scaleL (mulL (thirdL f) (thirdL f)) 9 = subL (addL (scaleL (mulL (mulL f f) (secondL f)) (6912 * ofPad numI f)) (scaleL (mulL (mulL f f) f) (-27648 * ofPad numJ f))) (scaleL (mulL (secondL f) (mulL (secondL f) (secondL f))) 16) := by
  refine Tm.ext (((third_tm f).mul (third_tm f)).scale 9) (Tm.sub _ _) fun x => ?_
  simp only [ev_sub, ev_add, ev_scale, ev_mul, third_ev hl, second_ev hl]
  have h := syz (f.getD 0 0) (f.getD 1 0) (f.getD 2 0) (f.getD 3 0) (f.getD 4 0) x
  have hf : ev f x = fx (f.getD 0 0) (f.getD 1 0) (f.getD 2 0) (f.getD 3 0) (f.getD 4 0) x := by rw [ev5 hl]; rfl
  rw [hf]
  unfold ofPad
  rw [h]
  generalize fx _ _ _ _ _ _ = F
  generalize sx _ _ _ _ _ _ = S'
  generalize numI _ _ _ _ _ = I
  generalize numJ _ _ _ _ _ = J
  grind
end Mine
end

section
namespace Mine
theorem bareiss0 (a b c d e f g h i : Int) : bareissL [[a, b, c], [d, e, f], [g, h, i]] 0 1 = [[a, b, c], [0, e * a - d * b, f * a - d * c], [0, h * a - g * b, i * a - g * c]] := by
  simp [bareissL, rowsG, colG, setM, at2, Int.fdiv_one]
theorem bareiss1 (a b c e f h i k : Int) : bareissL [[a, b, c], [0, e, f], [0, h, i]] 1 k = [[a, b, c], [0, e, f], [0, 0, (i * e - h * f).fdiv k]] := by
  simp [bareissL, rowsG, colG, setM, at2]
theorem bareiss2 (a b c d e f g h i k : Int) : bareissL [[a, b, c], [d, e, f], [g, h, i]] 2 k = [[a, b, c], [d, e, f], [g, h, i]] := by
  simp [bareissL, rowsG, colG, setM, at2]
noncomputable def det3 (a b c d e f g h i : Int) : Int := a * (e * i - f * h) - b * (d * i - f * g) + c * (d * h - e * g)
theorem swap01 (x y z : List Int) : swapM [x, y, z] 1 0 = [y, x, z] := rfl
theorem swap02 (x y z : List Int) : swapM [x, y, z] 2 0 = [z, y, x] := rfl
theorem swap12 (x y z : List Int) : swapM [x, y, z] 2 1 = [x, z, y] := rfl
/-- from the first pivot on -/
theorem det_tail (m : List (List Int)) (a b c e f h i sg : Int) (ha : a ≠ 0) (k : Int) (h1 : detS m 3 1 = some ([[a, b, c], [0, e, f], [0, h, i]], sg, a)) (hk : e * i - f * h = a * k) : detL m 3 = sg * k := by
  by_cases he : e = 0
  · by_cases hh : h = 0
    · have hk0 : k = 0 := by
        subst he; subst hh
        have : a * k = 0 := by rw [← hk]; simp
        rcases Int.mul_eq_zero.mp this with h | h
        · exact absurd h ha
        · exact h
      have h2 : detS m 3 2 = none := by
        rw [detS, h1]
        simp [pivotG, at2, he, hh]
      unfold detL
      rw [detS_none m 3 h2 3 (by omega), hk0]; simp
    · have hx : (f * h - e * i).fdiv a = -k := by
        have : f * h - e * i = a * (-k) := by rw [Int.mul_neg, ← hk]; grind
        rw [this, Int.mul_fdiv_cancel_left _ ha]
      have h2 : detS m 3 2 = some ([[a, b, c], [0, h, i], [0, 0, -k]], -sg, h) := by
        rw [detS, h1]
        have hp : pivotG [[a, b, c], [0, e, f], [0, h, i]] 1 (3 - 1) 1 = some 2 := by simp [pivotG, at2, he, hh]
        simp only [hp]
        rw [if_neg (by decide), if_neg (by decide), swap12, bareiss1, hx]
        rfl
      unfold detL
      by_cases hk0 : k = 0
      · have h3 : detS m 3 3 = none := by
          rw [detS, h2]
          simp [pivotG, at2, hk0]
        rw [h3, hk0]; simp
      · have h3 : detS m 3 3 = some ([[a, b, c], [0, h, i], [0, 0, -k]], -sg, -k) := by
          rw [detS, h2]
          have hp : pivotG [[a, b, c], [0, h, i], [0, 0, -k]] 2 (3 - 2) 2 = some 2 := by simp [pivotG, at2, hk0]
          simp only [hp]
          simp only [if_true]; rw [bareiss2]; rfl
        rw [h3]; simp only [Int.neg_mul_neg]
  · have hx : (i * e - h * f).fdiv a = k := by
      have : i * e - h * f = a * k := by rw [← hk]; grind
      rw [this, Int.mul_fdiv_cancel_left _ ha]
    have h2 : detS m 3 2 = some ([[a, b, c], [0, e, f], [0, 0, k]], sg, e) := by
      rw [detS, h1]
      have hp : pivotG [[a, b, c], [0, e, f], [0, h, i]] 1 (3 - 1) 1 = some 1 := by simp [pivotG, at2, he]
      simp only [hp]
      simp only [if_true]; rw [bareiss1, hx]
      rfl
    unfold detL
    by_cases hk0 : k = 0
    · have h3 : detS m 3 3 = none := by
        rw [detS, h2]
        simp [pivotG, at2, hk0]
      rw [h3, hk0]; simp
    · have h3 : detS m 3 3 = some ([[a, b, c], [0, e, f], [0, 0, k]], sg, k) := by
        rw [detS, h2]
        have hp : pivotG [[a, b, c], [0, e, f], [0, 0, k]] 2 (3 - 2) 2 = some 2 := by simp [pivotG, at2, hk0]
        simp only [hp]
        simp only [if_true]; rw [bareiss2]; rfl
      rw [h3]
theorem det_eq (a b c d e f g h i : Int) : detL [[a, b, c], [d, e, f], [g, h, i]] 3 = det3 a b c d e f g h i := by
  by_cases ha : a = 0
  · by_cases hd : d = 0
    · by_cases hg : g = 0
      · have h1 : detS [[a, b, c], [d, e, f], [g, h, i]] 3 1 = none := by
          rw [detS, detS]
          simp [pivotG, at2, ha, hd, hg]
        unfold detL
        rw [detS_none _ 3 h1 3 (by omega)]
        unfold det3
        rw [ha, hd, hg]; simp
      · have h1 : detS [[a, b, c], [d, e, f], [g, h, i]] 3 1 = some ([[g, h, i], [0, e * g - d * h, f * g - d * i], [0, b * g - a * h, c * g - a * i]], -1, g) := by
          rw [detS, detS]
          have hp : pivotG [[a, b, c], [d, e, f], [g, h, i]] 0 (3 - 0) 0 = some 2 := by simp [pivotG, at2, ha, hd, hg]
          simp only [hp]
          rw [if_neg (by decide), if_neg (by decide), swap02, bareiss0]; rfl
        rw [det_tail _ _ _ _ _ _ _ _ _ hg (-det3 a b c d e f g h i) h1 (by unfold det3; grind)]
        simp
    · have h1 : detS [[a, b, c], [d, e, f], [g, h, i]] 3 1 = some ([[d, e, f], [0, b * d - a * e, c * d - a * f], [0, h * d - g * e, i * d - g * f]], -1, d) := by
        rw [detS, detS]
        have hp : pivotG [[a, b, c], [d, e, f], [g, h, i]] 0 (3 - 0) 0 = some 1 := by simp [pivotG, at2, ha, hd]
        simp only [hp]
        rw [if_neg (by decide), if_neg (by decide), swap01, bareiss0]; rfl
      rw [det_tail _ _ _ _ _ _ _ _ _ hd (-det3 a b c d e f g h i) h1 (by unfold det3; grind)]
      simp
  · have h1 : detS [[a, b, c], [d, e, f], [g, h, i]] 3 1 = some ([[a, b, c], [0, e * a - d * b, f * a - d * c], [0, h * a - g * b, i * a - g * c]], 1, a) := by
      rw [detS, detS]
      have hp : pivotG [[a, b, c], [d, e, f], [g, h, i]] 0 (3 - 0) 0 = some 0 := by simp [pivotG, at2, ha]
      simp only [hp]
      simp only [if_true]; rw [bareiss0]; rfl
    rw [det_tail _ _ _ _ _ _ _ _ _ ha (det3 a b c d e f g h i) h1 (by unfold det3; grind)]
    simp
theorem det_hankel (f : List Int) : detL (hankelL f) 3 = 4 * ofPad numJ f := by
  unfold hankelL
  rw [det_eq]
  unfold det3 ofPad numJ
  grind
end Mine
end

section
set_option maxHeartbeats 4000000
namespace Mine
noncomputable def w0 (e d c b a p q r s : Int) : Int := 1*a*p*p*p*p + 1*b*p*p*p*r + 1*c*p*p*r*r + 1*d*p*r*r*r + 1*e*r*r*r*r
noncomputable def w1 (e d c b a p q r s : Int) : Int := 4*a*p*p*p*q + 1*b*p*p*p*s + 3*b*p*p*q*r + 2*c*p*p*r*s + 2*c*p*q*r*r + 3*d*p*r*r*s + 1*d*q*r*r*r + 4*e*r*r*r*s
noncomputable def w2 (e d c b a p q r s : Int) : Int := 6*a*p*p*q*q + 3*b*p*p*q*s + 3*b*p*q*q*r + 1*c*p*p*s*s + 4*c*p*q*r*s + 1*c*q*q*r*r + 3*d*p*r*s*s + 3*d*q*r*r*s + 6*e*r*r*s*s
noncomputable def w3 (e d c b a p q r s : Int) : Int := 4*a*p*q*q*q + 3*b*p*q*q*s + 1*b*q*q*q*r + 2*c*p*q*s*s + 2*c*q*q*r*s + 1*d*p*s*s*s + 3*d*q*r*s*s + 4*e*r*s*s*s
noncomputable def w4 (e d c b a p q r s : Int) : Int := 1*a*q*q*q*q + 1*b*q*q*q*s + 1*c*q*q*s*s + 1*d*q*s*s*s + 1*e*s*s*s*s
theorem covI (e d c b a p q r s : Int) : numI (w0 e d c b a p q r s) (w1 e d c b a p q r s) (w2 e d c b a p q r s) (w3 e d c b a p q r s) (w4 e d c b a p q r s) = numI e d c b a * (q * r - p * s) ^ 4 := by
  unfold numI w0 w1 w2 w3 w4
  grind
theorem covJ (e d c b a p q r s : Int) : numJ (w0 e d c b a p q r s) (w1 e d c b a p q r s) (w2 e d c b a p q r s) (w3 e d c b a p q r s) (w4 e d c b a p q r s) = numJ e d c b a * (q * r - p * s) ^ 6 := by
  unfold numJ w0 w1 w2 w3 w4
  grind
end Mine
end

section
set_option maxHeartbeats 8000000
namespace Mine
noncomputable def v0 (z0 z1 z2 z3 z4 z5 z6 p q r s : Int) : Int := 1*p*p*p*p*p*p*z6 + 1*p*p*p*p*p*r*z5 + 1*p*p*p*p*r*r*z4 + 1*p*p*p*r*r*r*z3 + 1*p*p*r*r*r*r*z2 + 1*p*r*r*r*r*r*z1 + 1*r*r*r*r*r*r*z0
noncomputable def v1 (z0 z1 z2 z3 z4 z5 z6 p q r s : Int) : Int := 6*p*p*p*p*p*q*z6 + 1*p*p*p*p*p*s*z5 + 5*p*p*p*p*q*r*z5 + 2*p*p*p*p*r*s*z4 + 4*p*p*p*q*r*r*z4 + 3*p*p*p*r*r*s*z3 + 3*p*p*q*r*r*r*z3 + 4*p*p*r*r*r*s*z2 + 2*p*q*r*r*r*r*z2 + 5*p*r*r*r*r*s*z1 + 1*q*r*r*r*r*r*z1 + 6*r*r*r*r*r*s*z0
noncomputable def v2 (z0 z1 z2 z3 z4 z5 z6 p q r s : Int) : Int := 15*p*p*p*p*q*q*z6 + 5*p*p*p*p*q*s*z5 + 1*p*p*p*p*s*s*z4 + 10*p*p*p*q*q*r*z5 + 8*p*p*p*q*r*s*z4 + 3*p*p*p*r*s*s*z3 + 6*p*p*q*q*r*r*z4 + 9*p*p*q*r*r*s*z3 + 6*p*p*r*r*s*s*z2 + 3*p*q*q*r*r*r*z3 + 8*p*q*r*r*r*s*z2 + 10*p*r*r*r*s*s*z1 + 1*q*q*r*r*r*r*z2 + 5*q*r*r*r*r*s*z1 + 15*r*r*r*r*s*s*z0
noncomputable def v3 (z0 z1 z2 z3 z4 z5 z6 p q r s : Int) : Int := 20*p*p*p*q*q*q*z6 + 10*p*p*p*q*q*s*z5 + 4*p*p*p*q*s*s*z4 + 1*p*p*p*s*s*s*z3 + 10*p*p*q*q*q*r*z5 + 12*p*p*q*q*r*s*z4 + 9*p*p*q*r*s*s*z3 + 4*p*p*r*s*s*s*z2 + 4*p*q*q*q*r*r*z4 + 9*p*q*q*r*r*s*z3 + 12*p*q*r*r*s*s*z2 + 10*p*r*r*s*s*s*z1 + 1*q*q*q*r*r*r*z3 + 4*q*q*r*r*r*s*z2 + 10*q*r*r*r*s*s*z1 + 20*r*r*r*s*s*s*z0
noncomputable def v4 (z0 z1 z2 z3 z4 z5 z6 p q r s : Int) : Int := 15*p*p*q*q*q*q*z6 + 10*p*p*q*q*q*s*z5 + 6*p*p*q*q*s*s*z4 + 3*p*p*q*s*s*s*z3 + 1*p*p*s*s*s*s*z2 + 5*p*q*q*q*q*r*z5 + 8*p*q*q*q*r*s*z4 + 9*p*q*q*r*s*s*z3 + 8*p*q*r*s*s*s*z2 + 5*p*r*s*s*s*s*z1 + 1*q*q*q*q*r*r*z4 + 3*q*q*q*r*r*s*z3 + 6*q*q*r*r*s*s*z2 + 10*q*r*r*s*s*s*z1 + 15*r*r*s*s*s*s*z0
noncomputable def v5 (z0 z1 z2 z3 z4 z5 z6 p q r s : Int) : Int := 6*p*q*q*q*q*q*z6 + 5*p*q*q*q*q*s*z5 + 4*p*q*q*q*s*s*z4 + 3*p*q*q*s*s*s*z3 + 2*p*q*s*s*s*s*z2 + 1*p*s*s*s*s*s*z1 + 1*q*q*q*q*q*r*z5 + 2*q*q*q*q*r*s*z4 + 3*q*q*q*r*s*s*z3 + 4*q*q*r*s*s*s*z2 + 5*q*r*s*s*s*s*z1 + 6*r*s*s*s*s*s*z0
noncomputable def v6 (z0 z1 z2 z3 z4 z5 z6 p q r s : Int) : Int := 1*q*q*q*q*q*q*z6 + 1*q*q*q*q*q*s*z5 + 1*q*q*q*q*s*s*z4 + 1*q*q*q*s*s*s*z3 + 1*q*q*s*s*s*s*z2 + 1*q*s*s*s*s*s*z1 + 1*s*s*s*s*s*s*z0
theorem covS0 (e d c b a p q r s : Int) : s0 (w0 e d c b a p q r s) (w1 e d c b a p q r s) (w2 e d c b a p q r s) (w3 e d c b a p q r s) (w4 e d c b a p q r s) = w0 (s0 e d c b a) (s1 e d c b a) (s2 e d c b a) (s3 e d c b a) (s4 e d c b a) p q r s * (q * r - p * s) ^ 2 := by
  unfold w0 w1 w2 w3 w4 s0 s1 s2 s3 s4
  grind
theorem covS1 (e d c b a p q r s : Int) : s1 (w0 e d c b a p q r s) (w1 e d c b a p q r s) (w2 e d c b a p q r s) (w3 e d c b a p q r s) (w4 e d c b a p q r s) = w1 (s0 e d c b a) (s1 e d c b a) (s2 e d c b a) (s3 e d c b a) (s4 e d c b a) p q r s * (q * r - p * s) ^ 2 := by
  unfold w0 w1 w2 w3 w4 s0 s1 s2 s3 s4
  grind
theorem covS2 (e d c b a p q r s : Int) : s2 (w0 e d c b a p q r s) (w1 e d c b a p q r s) (w2 e d c b a p q r s) (w3 e d c b a p q r s) (w4 e d c b a p q r s) = w2 (s0 e d c b a) (s1 e d c b a) (s2 e d c b a) (s3 e d c b a) (s4 e d c b a) p q r s * (q * r - p * s) ^ 2 := by
  unfold w0 w1 w2 w3 w4 s0 s1 s2 s3 s4
  grind
theorem covS3 (e d c b a p q r s : Int) : s3 (w0 e d c b a p q r s) (w1 e d c b a p q r s) (w2 e d c b a p q r s) (w3 e d c b a p q r s) (w4 e d c b a p q r s) = w3 (s0 e d c b a) (s1 e d c b a) (s2 e d c b a) (s3 e d c b a) (s4 e d c b a) p q r s * (q * r - p * s) ^ 2 := by
  unfold w0 w1 w2 w3 w4 s0 s1 s2 s3 s4
  grind
theorem covS4 (e d c b a p q r s : Int) : s4 (w0 e d c b a p q r s) (w1 e d c b a p q r s) (w2 e d c b a p q r s) (w3 e d c b a p q r s) (w4 e d c b a p q r s) = w4 (s0 e d c b a) (s1 e d c b a) (s2 e d c b a) (s3 e d c b a) (s4 e d c b a) p q r s * (q * r - p * s) ^ 2 := by
  unfold w0 w1 w2 w3 w4 s0 s1 s2 s3 s4
  grind
theorem covT0 (e d c b a p q r s : Int) : t0 (w0 e d c b a p q r s) (w1 e d c b a p q r s) (w2 e d c b a p q r s) (w3 e d c b a p q r s) (w4 e d c b a p q r s) = v0 (t0 e d c b a) (t1 e d c b a) (t2 e d c b a) (t3 e d c b a) (t4 e d c b a) (t5 e d c b a) (t6 e d c b a) p q r s * (q * r - p * s) ^ 3 := by
  unfold w0 w1 w2 w3 w4 t0 t1 t2 t3 t4 t5 t6 v0
  grind
theorem covT1 (e d c b a p q r s : Int) : t1 (w0 e d c b a p q r s) (w1 e d c b a p q r s) (w2 e d c b a p q r s) (w3 e d c b a p q r s) (w4 e d c b a p q r s) = v1 (t0 e d c b a) (t1 e d c b a) (t2 e d c b a) (t3 e d c b a) (t4 e d c b a) (t5 e d c b a) (t6 e d c b a) p q r s * (q * r - p * s) ^ 3 := by
  unfold w0 w1 w2 w3 w4 t0 t1 t2 t3 t4 t5 t6 v1
  grind
theorem covT2 (e d c b a p q r s : Int) : t2 (w0 e d c b a p q r s) (w1 e d c b a p q r s) (w2 e d c b a p q r s) (w3 e d c b a p q r s) (w4 e d c b a p q r s) = v2 (t0 e d c b a) (t1 e d c b a) (t2 e d c b a) (t3 e d c b a) (t4 e d c b a) (t5 e d c b a) (t6 e d c b a) p q r s * (q * r - p * s) ^ 3 := by
  unfold w0 w1 w2 w3 w4 t0 t1 t2 t3 t4 t5 t6 v2
  grind
theorem covT3 (e d c b a p q r s : Int) : t3 (w0 e d c b a p q r s) (w1 e d c b a p q r s) (w2 e d c b a p q r s) (w3 e d c b a p q r s) (w4 e d c b a p q r s) = v3 (t0 e d c b a) (t1 e d c b a) (t2 e d c b a) (t3 e d c b a) (t4 e d c b a) (t5 e d c b a) (t6 e d c b a) p q r s * (q * r - p * s) ^ 3 := by
  unfold w0 w1 w2 w3 w4 t0 t1 t2 t3 t4 t5 t6 v3
  grind
theorem covT4 (e d c b a p q r s : Int) : t4 (w0 e d c b a p q r s) (w1 e d c b a p q r s) (w2 e d c b a p q r s) (w3 e d c b a p q r s) (w4 e d c b a p q r s) = v4 (t0 e d c b a) (t1 e d c b a) (t2 e d c b a) (t3 e d c b a) (t4 e d c b a) (t5 e d c b a) (t6 e d c b a) p q r s * (q * r - p * s) ^ 3 := by
  unfold w0 w1 w2 w3 w4 t0 t1 t2 t3 t4 t5 t6 v4
  grind
theorem covT5 (e d c b a p q r s : Int) : t5 (w0 e d c b a p q r s) (w1 e d c b a p q r s) (w2 e d c b a p q r s) (w3 e d c b a p q r s) (w4 e d c b a p q r s) = v5 (t0 e d c b a) (t1 e d c b a) (t2 e d c b a) (t3 e d c b a) (t4 e d c b a) (t5 e d c b a) (t6 e d c b a) p q r s * (q * r - p * s) ^ 3 := by
  unfold w0 w1 w2 w3 w4 t0 t1 t2 t3 t4 t5 t6 v5
  grind
theorem covT6 (e d c b a p q r s : Int) : t6 (w0 e d c b a p q r s) (w1 e d c b a p q r s) (w2 e d c b a p q r s) (w3 e d c b a p q r s) (w4 e d c b a p q r s) = v6 (t0 e d c b a) (t1 e d c b a) (t2 e d c b a) (t3 e d c b a) (t4 e d c b a) (t5 e d c b a) (t6 e d c b a) p q r s * (q * r - p * s) ^ 3 := by
  unfold w0 w1 w2 w3 w4 t0 t1 t2 t3 t4 t5 t6 v6
  grind
end Mine
end

section
set_option maxHeartbeats 4000000
namespace Mine
theorem movedG_ev (f l0 l1 : List Int) (many : Nat) (x : Int) : ∀ n, ev (movedG f many l0 l1 n) x = S (fun i => f.getD i 0 * (ev l0 x ^ i * ev l1 x ^ (many - i))) n
  | 0 => rfl
  | n + 1 => by
    rw [movedG, ev_add, movedG_ev f l0 l1 many x n, ev_scale, ev_mul, ev_powG x n n (Nat.le_refl _), ev_powG x (many - n) (many - n) (Nat.le_refl _), S]
    have : ev [1] x = 1 := by rw [ev1 (by decide)]; rfl
    rw [this, Int.one_mul, Int.one_mul]
theorem movedL_ev {f : List Int} {n : Nat} (hl : f.length ≤ n) (l0 l1 : List Int) (many : Nat) (x : Int) : ev (movedL f many l0 l1) x = S (fun i => f.getD i 0 * (ev l0 x ^ i * ev l1 x ^ (many - i))) n := by
  unfold movedL
  rw [movedG_ev]
  exact (S_ext (fun i hi => by rw [getD_ge hi]; simp) n hl).symm
theorem movedG_tm (f l0 l1 : List Int) (many : Nat) : ∀ n, Tm (movedG f many l0 l1 n)
  | 0 => Tm.nil
  | n + 1 => by rw [movedG]; exact Tm.add _ _
theorem movedL_tm (f l0 l1 : List Int) (many : Nat) : Tm (movedL f many l0 l1) := movedG_tm _ _ _ _ _
theorem line_ev (p q x : Int) : ev (trimL [p, q]) x = p + q * x := by
  rw [ev_trim, ev2 (by simp)]; simp
/-- a quartic under a move -/
noncomputable def wL (f : List Int) (p q r s : Int) : List Int := [w0 (f.getD 0 0) (f.getD 1 0) (f.getD 2 0) (f.getD 3 0) (f.getD 4 0) p q r s, w1 (f.getD 0 0) (f.getD 1 0) (f.getD 2 0) (f.getD 3 0) (f.getD 4 0) p q r s, w2 (f.getD 0 0) (f.getD 1 0) (f.getD 2 0) (f.getD 3 0) (f.getD 4 0) p q r s,
  w3 (f.getD 0 0) (f.getD 1 0) (f.getD 2 0) (f.getD 3 0) (f.getD 4 0) p q r s, w4 (f.getD 0 0) (f.getD 1 0) (f.getD 2 0) (f.getD 3 0) (f.getD 4 0) p q r s]
theorem w_id (e d c b a p q r s x : Int) : e * (p + q * x) ^ 0 * (r + s * x) ^ 4 + d * (p + q * x) ^ 1 * (r + s * x) ^ 3 + c * (p + q * x) ^ 2 * (r + s * x) ^ 2 + b * (p + q * x) ^ 3 * (r + s * x) ^ 1 + a * (p + q * x) ^ 4 * (r + s * x) ^ 0
    = w0 e d c b a p q r s + w1 e d c b a p q r s * x + w2 e d c b a p q r s * x ^ 2 + w3 e d c b a p q r s * x ^ 3 + w4 e d c b a p q r s * x ^ 4 := by
  unfold w0 w1 w2 w3 w4
  grind
theorem moved4_getD {f : List Int} (hl : f.length ≤ 5) (p q r s : Int) (i : Nat) : (movedL f 4 (trimL [p, q]) (trimL [r, s])).getD i 0 = (wL f p q r s).getD i 0 := by
  refine ev_inj (fun x => ?_) i
  rw [movedL_ev hl, ev5 (xs := wL f p q r s) (by simp [wL])]
  have h := w_id (f.getD 0 0) (f.getD 1 0) (f.getD 2 0) (f.getD 3 0) (f.getD 4 0) p q r s x
  simp only [wL, List.getD_cons_zero, List.getD_cons_succ]
  rw [← h]
  simp only [S, line_ev]
  simp only [Nat.sub_zero, show 4 - 1 = 3 from rfl, show 4 - 2 = 2 from rfl, show 4 - 3 = 1 from rfl, show 4 - 4 = 0 from rfl, Int.zero_add, Int.mul_assoc]
theorem moved4_len {f : List Int} (hl : f.length ≤ 5) (p q r s : Int) : (movedL f 4 (trimL [p, q]) (trimL [r, s])).length ≤ 5 :=
  (movedL_tm _ _ _ _).len_le fun i hi => by rw [moved4_getD hl]; exact getD_ge (by simpa [wL] using hi)
noncomputable def vL (g : List Int) (p q r s : Int) : List Int := [v0 (g.getD 0 0) (g.getD 1 0) (g.getD 2 0) (g.getD 3 0) (g.getD 4 0) (g.getD 5 0) (g.getD 6 0) p q r s, v1 (g.getD 0 0) (g.getD 1 0) (g.getD 2 0) (g.getD 3 0) (g.getD 4 0) (g.getD 5 0) (g.getD 6 0) p q r s,
  v2 (g.getD 0 0) (g.getD 1 0) (g.getD 2 0) (g.getD 3 0) (g.getD 4 0) (g.getD 5 0) (g.getD 6 0) p q r s, v3 (g.getD 0 0) (g.getD 1 0) (g.getD 2 0) (g.getD 3 0) (g.getD 4 0) (g.getD 5 0) (g.getD 6 0) p q r s, v4 (g.getD 0 0) (g.getD 1 0) (g.getD 2 0) (g.getD 3 0) (g.getD 4 0) (g.getD 5 0) (g.getD 6 0) p q r s,
  v5 (g.getD 0 0) (g.getD 1 0) (g.getD 2 0) (g.getD 3 0) (g.getD 4 0) (g.getD 5 0) (g.getD 6 0) p q r s, v6 (g.getD 0 0) (g.getD 1 0) (g.getD 2 0) (g.getD 3 0) (g.getD 4 0) (g.getD 5 0) (g.getD 6 0) p q r s]
theorem v_id (z0 z1 z2 z3 z4 z5 z6 p q r s x : Int) : z0 * (p + q * x) ^ 0 * (r + s * x) ^ 6 + z1 * (p + q * x) ^ 1 * (r + s * x) ^ 5 + z2 * (p + q * x) ^ 2 * (r + s * x) ^ 4 + z3 * (p + q * x) ^ 3 * (r + s * x) ^ 3 + z4 * (p + q * x) ^ 4 * (r + s * x) ^ 2 + z5 * (p + q * x) ^ 5 * (r + s * x) ^ 1 + z6 * (p + q * x) ^ 6 * (r + s * x) ^ 0
    = v0 z0 z1 z2 z3 z4 z5 z6 p q r s + v1 z0 z1 z2 z3 z4 z5 z6 p q r s * x + v2 z0 z1 z2 z3 z4 z5 z6 p q r s * x ^ 2 + v3 z0 z1 z2 z3 z4 z5 z6 p q r s * x ^ 3 + v4 z0 z1 z2 z3 z4 z5 z6 p q r s * x ^ 4 + v5 z0 z1 z2 z3 z4 z5 z6 p q r s * x ^ 5 + v6 z0 z1 z2 z3 z4 z5 z6 p q r s * x ^ 6 := by
  unfold v0 v1 v2 v3 v4 v5 v6
  grind
theorem moved6_getD {g : List Int} (hl : g.length ≤ 7) (p q r s : Int) (i : Nat) : (movedL g 6 (trimL [p, q]) (trimL [r, s])).getD i 0 = (vL g p q r s).getD i 0 := by
  refine ev_inj (fun x => ?_) i
  rw [movedL_ev hl, ev7 (xs := vL g p q r s) (by simp [vL])]
  have h := v_id (g.getD 0 0) (g.getD 1 0) (g.getD 2 0) (g.getD 3 0) (g.getD 4 0) (g.getD 5 0) (g.getD 6 0) p q r s x
  simp only [vL, List.getD_cons_zero, List.getD_cons_succ]
  rw [← h]
  simp only [S, line_ev]
  simp only [Nat.sub_zero, show 6 - 1 = 5 from rfl, show 6 - 2 = 4 from rfl, show 6 - 3 = 3 from rfl, show 6 - 4 = 2 from rfl, show 6 - 5 = 1 from rfl, show 6 - 6 = 0 from rfl, Int.zero_add, Int.mul_assoc]
theorem covIL {f : List Int} (hl : f.length ≤ 5) (p q r s : Int) : ofPad numI (movedL f 4 (trimL [p, q]) (trimL [r, s])) = ofPad numI f * (q * r - p * s) ^ 4 := by
  unfold ofPad
  simp only [moved4_getD hl, wL, List.getD_cons_zero, List.getD_cons_succ]
  exact covI _ _ _ _ _ _ _ _ _
theorem covJL {f : List Int} (hl : f.length ≤ 5) (p q r s : Int) : ofPad numJ (movedL f 4 (trimL [p, q]) (trimL [r, s])) = ofPad numJ f * (q * r - p * s) ^ 6 := by
  unfold ofPad
  simp only [moved4_getD hl, wL, List.getD_cons_zero, List.getD_cons_succ]
  exact covJ _ _ _ _ _ _ _ _ _
theorem of_moved {f : List Int} (hl : f.length ≤ 5) (p q r s : Int) (F : Int → Int → Int → Int → Int → Int) : ofPad F (movedL f 4 (trimL [p, q]) (trimL [r, s])) =
    F (w0 (f.getD 0 0) (f.getD 1 0) (f.getD 2 0) (f.getD 3 0) (f.getD 4 0) p q r s) (w1 (f.getD 0 0) (f.getD 1 0) (f.getD 2 0) (f.getD 3 0) (f.getD 4 0) p q r s) (w2 (f.getD 0 0) (f.getD 1 0) (f.getD 2 0) (f.getD 3 0) (f.getD 4 0) p q r s)
      (w3 (f.getD 0 0) (f.getD 1 0) (f.getD 2 0) (f.getD 3 0) (f.getD 4 0) p q r s) (w4 (f.getD 0 0) (f.getD 1 0) (f.getD 2 0) (f.getD 3 0) (f.getD 4 0) p q r s) := by
  unfold ofPad; rw [moved4_getD hl, moved4_getD hl, moved4_getD hl, moved4_getD hl, moved4_getD hl]; rfl
theorem of_second {f : List Int} (hl : f.length ≤ 5) (F : Int → Int → Int → Int → Int → Int) : F ((secondL f).getD 0 0) ((secondL f).getD 1 0) ((secondL f).getD 2 0) ((secondL f).getD 3 0) ((secondL f).getD 4 0) =
    F (ofPad s0 f) (ofPad s1 f) (ofPad s2 f) (ofPad s3 f) (ofPad s4 f) := by
  rw [second_getD hl, second_getD hl, second_getD hl, second_getD hl, second_getD hl]; rfl
theorem of_third {f : List Int} (hl : f.length ≤ 5) (F : Int → Int → Int → Int → Int → Int → Int → Int) : F ((thirdL f).getD 0 0) ((thirdL f).getD 1 0) ((thirdL f).getD 2 0) ((thirdL f).getD 3 0) ((thirdL f).getD 4 0) ((thirdL f).getD 5 0) ((thirdL f).getD 6 0) =
    F (ofPad t0 f) (ofPad t1 f) (ofPad t2 f) (ofPad t3 f) (ofPad t4 f) (ofPad t5 f) (ofPad t6 f) := by
  rw [third_getD hl, third_getD hl, third_getD hl, third_getD hl, third_getD hl, third_getD hl, third_getD hl]; rfl
theorem covSL {f : List Int} (hl : f.length ≤ 5) (p q r s : Int) : secondL (movedL f 4 (trimL [p, q]) (trimL [r, s])) = scaleL (movedL (secondL f) 4 (trimL [p, q]) (trimL [r, s])) ((q * r - p * s) ^ 2) := by
  refine Tm.ext2 (second_tm _) ((movedL_tm _ _ _ _).scale _) fun i => ?_
  rw [scaleL_getD, second_getD (moved4_len hl p q r s), moved4_getD (second_len hl)]
  match i with
  | 0 => exact (of_moved hl p q r s s0).trans ((covS0 _ _ _ _ _ _ _ _ _).trans (congrArg (fun n => n * (q * r - p * s) ^ 2) (of_second hl fun e d c b a => w0 e d c b a p q r s).symm))
  | 1 => exact (of_moved hl p q r s s1).trans ((covS1 _ _ _ _ _ _ _ _ _).trans (congrArg (fun n => n * (q * r - p * s) ^ 2) (of_second hl fun e d c b a => w1 e d c b a p q r s).symm))
  | 2 => exact (of_moved hl p q r s s2).trans ((covS2 _ _ _ _ _ _ _ _ _).trans (congrArg (fun n => n * (q * r - p * s) ^ 2) (of_second hl fun e d c b a => w2 e d c b a p q r s).symm))
  | 3 => exact (of_moved hl p q r s s3).trans ((covS3 _ _ _ _ _ _ _ _ _).trans (congrArg (fun n => n * (q * r - p * s) ^ 2) (of_second hl fun e d c b a => w3 e d c b a p q r s).symm))
  | 4 => exact (of_moved hl p q r s s4).trans ((covS4 _ _ _ _ _ _ _ _ _).trans (congrArg (fun n => n * (q * r - p * s) ^ 2) (of_second hl fun e d c b a => w4 e d c b a p q r s).symm))
  | n + 5 => exact (Int.zero_mul _).symm
theorem covTL {f : List Int} (hl : f.length ≤ 5) (p q r s : Int) : thirdL (movedL f 4 (trimL [p, q]) (trimL [r, s])) = scaleL (movedL (thirdL f) 6 (trimL [p, q]) (trimL [r, s])) ((q * r - p * s) ^ 3) := by
  refine Tm.ext2 (third_tm _) ((movedL_tm _ _ _ _).scale _) fun i => ?_
  rw [scaleL_getD, third_getD (moved4_len hl p q r s), moved6_getD (third_len hl)]
  match i with
  | 0 => exact (of_moved hl p q r s t0).trans ((covT0 _ _ _ _ _ _ _ _ _).trans (congrArg (fun n => n * (q * r - p * s) ^ 3) (of_third hl fun z0 z1 z2 z3 z4 z5 z6 => v0 z0 z1 z2 z3 z4 z5 z6 p q r s).symm))
  | 1 => exact (of_moved hl p q r s t1).trans ((covT1 _ _ _ _ _ _ _ _ _).trans (congrArg (fun n => n * (q * r - p * s) ^ 3) (of_third hl fun z0 z1 z2 z3 z4 z5 z6 => v1 z0 z1 z2 z3 z4 z5 z6 p q r s).symm))
  | 2 => exact (of_moved hl p q r s t2).trans ((covT2 _ _ _ _ _ _ _ _ _).trans (congrArg (fun n => n * (q * r - p * s) ^ 3) (of_third hl fun z0 z1 z2 z3 z4 z5 z6 => v2 z0 z1 z2 z3 z4 z5 z6 p q r s).symm))
  | 3 => exact (of_moved hl p q r s t3).trans ((covT3 _ _ _ _ _ _ _ _ _).trans (congrArg (fun n => n * (q * r - p * s) ^ 3) (of_third hl fun z0 z1 z2 z3 z4 z5 z6 => v3 z0 z1 z2 z3 z4 z5 z6 p q r s).symm))
  | 4 => exact (of_moved hl p q r s t4).trans ((covT4 _ _ _ _ _ _ _ _ _).trans (congrArg (fun n => n * (q * r - p * s) ^ 3) (of_third hl fun z0 z1 z2 z3 z4 z5 z6 => v4 z0 z1 z2 z3 z4 z5 z6 p q r s).symm))
  | 5 => exact (of_moved hl p q r s t5).trans ((covT5 _ _ _ _ _ _ _ _ _).trans (congrArg (fun n => n * (q * r - p * s) ^ 3) (of_third hl fun z0 z1 z2 z3 z4 z5 z6 => v5 z0 z1 z2 z3 z4 z5 z6 p q r s).symm))
  | 6 => exact (of_moved hl p q r s t6).trans ((covT6 _ _ _ _ _ _ _ _ _).trans (congrArg (fun n => n * (q * r - p * s) ^ 3) (of_third hl fun z0 z1 z2 z3 z4 z5 z6 => v6 z0 z1 z2 z3 z4 z5 z6 p q r s).symm))
  | n + 7 => exact (Int.zero_mul _).symm
end Mine
end

section
set_option maxHeartbeats 4000000
namespace Mine
theorem fOf_tm (kind : Int) (row : List Int) : Tm (fOf kind row) := by
  unfold fOf
  split
  · exact ((Tm.trim _).mul (Tm.trim _)).scale _
  · split
    · exact (Tm.powG 3 3 (Nat.le_refl _) _ _ (fun _ => by decide) (Tm.trim _)).mul (Tm.trim _)
    · exact Tm.trim _
theorem sq_getD (g0 g1 g2 k : Int) (i : Nat) : (scaleL (mulL (trimL [g0, g1, g2]) (trimL [g0, g1, g2])) k).getD i 0 = ([k * (g0 * g0), k * (2 * g0 * g1), k * (2 * g0 * g2 + g1 * g1), k * (2 * g1 * g2), k * (g2 * g2)] : List Int).getD i 0 := by
  refine ev_inj (fun x => ?_) i
  rw [ev_scale, ev_mul, ev_trim, ev3 (by simp), ev5 (by simp)]
  simp only [List.getD_cons_zero, List.getD_cons_succ]
  grind
theorem squareL {r0 r1 r2 r3 r4 : Int} {f : List Int} (hf : f = fOf 1 [r0, r1, r2, r3, r4]) (hl : f.length ≤ 5) (ht : Tm f) (part : Int) (hp : part = r3 * (r1 ^ 2 - 4 * r0 * r2)) :
    ofPad numI f = part ^ 2 ∧ ofPad numJ f = -2 * part ^ 3 ∧ secondL f = scaleL f (-12 * part) ∧ thirdL f = [] := by
  have hc : ∀ i, f.getD i 0 = ([r3 * (r0 * r0), r3 * (2 * r0 * r1), r3 * (2 * r0 * r2 + r1 * r1), r3 * (2 * r1 * r2), r3 * (r2 * r2)] : List Int).getD i 0 := by
    intro i
    rw [hf]
    unfold fOf
    rw [if_pos rfl]
    exact sq_getD r0 r1 r2 r3 i
  subst hp
  have of : ∀ F : Int → Int → Int → Int → Int → Int, ofPad F f = F (r3 * (r0 * r0)) (r3 * (2 * r0 * r1)) (r3 * (2 * r0 * r2 + r1 * r1)) (r3 * (2 * r1 * r2)) (r3 * (r2 * r2)) := fun F => by
    unfold ofPad; rw [hc, hc, hc, hc, hc]; rfl
  refine ⟨(of numI).trans ?_, (of numJ).trans ?_, ?_, ?_⟩
  · clear of hc ht hl hf
    unfold numI
    grind
  · clear of hc ht hl hf
    unfold numJ
    grind
  · refine Tm.ext2 (second_tm _) (ht.scale _) fun i => ?_
    rw [scaleL_getD, second_getD hl, hc i]
    match i with
    | 0 => exact (of s0).trans (show s0 (r3 * (r0 * r0)) (r3 * (2 * r0 * r1)) (r3 * (2 * r0 * r2 + r1 * r1)) (r3 * (2 * r1 * r2)) (r3 * (r2 * r2)) = (r3 * (r0 * r0)) * (-12 * (r3 * (r1 ^ 2 - 4 * r0 * r2))) by clear of hc ht hl hf; unfold s0; grind)
    | 1 => exact (of s1).trans (show s1 (r3 * (r0 * r0)) (r3 * (2 * r0 * r1)) (r3 * (2 * r0 * r2 + r1 * r1)) (r3 * (2 * r1 * r2)) (r3 * (r2 * r2)) = (r3 * (2 * r0 * r1)) * (-12 * (r3 * (r1 ^ 2 - 4 * r0 * r2))) by clear of hc ht hl hf; unfold s1; grind)
    | 2 => exact (of s2).trans (show s2 (r3 * (r0 * r0)) (r3 * (2 * r0 * r1)) (r3 * (2 * r0 * r2 + r1 * r1)) (r3 * (2 * r1 * r2)) (r3 * (r2 * r2)) = (r3 * (2 * r0 * r2 + r1 * r1)) * (-12 * (r3 * (r1 ^ 2 - 4 * r0 * r2))) by clear of hc ht hl hf; unfold s2; grind)
    | 3 => exact (of s3).trans (show s3 (r3 * (r0 * r0)) (r3 * (2 * r0 * r1)) (r3 * (2 * r0 * r2 + r1 * r1)) (r3 * (2 * r1 * r2)) (r3 * (r2 * r2)) = (r3 * (2 * r1 * r2)) * (-12 * (r3 * (r1 ^ 2 - 4 * r0 * r2))) by clear of hc ht hl hf; unfold s3; grind)
    | 4 => exact (of s4).trans (show s4 (r3 * (r0 * r0)) (r3 * (2 * r0 * r1)) (r3 * (2 * r0 * r2 + r1 * r1)) (r3 * (2 * r1 * r2)) (r3 * (r2 * r2)) = (r3 * (r2 * r2)) * (-12 * (r3 * (r1 ^ 2 - 4 * r0 * r2))) by clear of hc ht hl hf; unfold s4; grind)
    | n + 5 => exact (Int.zero_mul _).symm
  · refine Tm.ext2 (third_tm _) Tm.nil fun i => ?_
    rw [third_getD hl]
    match i with
    | 0 => exact (of t0).trans (show t0 (r3 * (r0 * r0)) (r3 * (2 * r0 * r1)) (r3 * (2 * r0 * r2 + r1 * r1)) (r3 * (2 * r1 * r2)) (r3 * (r2 * r2)) = 0 by clear of hc ht hl hf; unfold t0; grind)
    | 1 => exact (of t1).trans (show t1 (r3 * (r0 * r0)) (r3 * (2 * r0 * r1)) (r3 * (2 * r0 * r2 + r1 * r1)) (r3 * (2 * r1 * r2)) (r3 * (r2 * r2)) = 0 by clear of hc ht hl hf; unfold t1; grind)
    | 2 => exact (of t2).trans (show t2 (r3 * (r0 * r0)) (r3 * (2 * r0 * r1)) (r3 * (2 * r0 * r2 + r1 * r1)) (r3 * (2 * r1 * r2)) (r3 * (r2 * r2)) = 0 by clear of hc ht hl hf; unfold t2; grind)
    | 3 => exact (of t3).trans (show t3 (r3 * (r0 * r0)) (r3 * (2 * r0 * r1)) (r3 * (2 * r0 * r2 + r1 * r1)) (r3 * (2 * r1 * r2)) (r3 * (r2 * r2)) = 0 by clear of hc ht hl hf; unfold t3; grind)
    | 4 => exact (of t4).trans (show t4 (r3 * (r0 * r0)) (r3 * (2 * r0 * r1)) (r3 * (2 * r0 * r2 + r1 * r1)) (r3 * (2 * r1 * r2)) (r3 * (r2 * r2)) = 0 by clear of hc ht hl hf; unfold t4; grind)
    | 5 => exact (of t5).trans (show t5 (r3 * (r0 * r0)) (r3 * (2 * r0 * r1)) (r3 * (2 * r0 * r2 + r1 * r1)) (r3 * (2 * r1 * r2)) (r3 * (r2 * r2)) = 0 by clear of hc ht hl hf; unfold t5; grind)
    | 6 => exact (of t6).trans (show t6 (r3 * (r0 * r0)) (r3 * (2 * r0 * r1)) (r3 * (2 * r0 * r2 + r1 * r1)) (r3 * (2 * r1 * r2)) (r3 * (r2 * r2)) = 0 by clear of hc ht hl hf; unfold t6; grind)
    | n + 7 => rfl
end Mine
end

section
set_option maxHeartbeats 8000000
namespace Mine
noncomputable def R43 (p0 p1 p2 p3 p4 q0 q1 q2 q3 : Int) : Int := 1*p0*p0*p0*q3*q3*q3*q3 - 1*p0*p0*p1*q2*q3*q3*q3 - 2*p0*p0*p2*q1*q3*q3*q3 + 1*p0*p0*p2*q2*q2*q3*q3 - 3*p0*p0*p3*q0*q3*q3*q3 + 3*p0*p0*p3*q1*q2*q3*q3 - 1*p0*p0*p3*q2*q2*q2*q3 + 4*p0*p0*p4*q0*q2*q3*q3 + 2*p0*p0*p4*q1*q1*q3*q3 - 4*p0*p0*p4*q1*q2*q2*q3 + 1*p0*p0*p4*q2*q2*q2*q2 + 1*p0*p1*p1*q1*q3*q3*q3 + 3*p0*p1*p2*q0*q3*q3*q3 - 1*p0*p1*p2*q1*q2*q3*q3 - 1*p0*p1*p3*q0*q2*q3*q3 - 2*p0*p1*p3*q1*q1*q3*q3 + 1*p0*p1*p3*q1*q2*q2*q3 - 5*p0*p1*p4*q0*q1*q3*q3 + 1*p0*p1*p4*q0*q2*q2*q3 + 3*p0*p1*p4*q1*q1*q2*q3 - 1*p0*p1*p4*q1*q2*q2*q2 - 2*p0*p2*p2*q0*q2*q3*q3 + 1*p0*p2*p2*q1*q1*q3*q3 + 1*p0*p2*p3*q0*q1*q3*q3 + 2*p0*p2*p3*q0*q2*q2*q3 - 1*p0*p2*p3*q1*q1*q2*q3 - 3*p0*p2*p4*q0*q0*q3*q3 + 4*p0*p2*p4*q0*q1*q2*q3 - 2*p0*p2*p4*q0*q2*q2*q2 - 2*p0*p2*p4*q1*q1*q1*q3 + 1*p0*p2*p4*q1*q1*q2*q2 + 3*p0*p3*p3*q0*q0*q3*q3 - 3*p0*p3*p3*q0*q1*q2*q3 + 1*p0*p3*p3*q1*q1*q1*q3 - 5*p0*p3*p4*q0*q0*q2*q3 + 1*p0*p3*p4*q0*q1*q1*q3 + 3*p0*p3*p4*q0*q1*q2*q2 - 1*p0*p3*p4*q1*q1*q1*q2 + 4*p0*p4*p4*q0*q0*q1*q3 + 2*p0*p4*p4*q0*q0*q2*q2 - 4*p0*p4*p4*q0*q1*q1*q2 + 1*p0*p4*p4*q1*q1*q1*q1 - 1*p1*p1*p1*q0*q3*q3*q3 + 1*p1*p1*p2*q0*q2*q3*q3 + 2*p1*p1*p3*q0*q1*q3*q3 - 1*p1*p1*p3*q0*q2*q2*q3 + 3*p1*p1*p4*q0*q0*q3*q3 - 3*p1*p1*p4*q0*q1*q2*q3 + 1*p1*p1*p4*q0*q2*q2*q2 - 1*p1*p2*p2*q0*q1*q3*q3 - 3*p1*p2*p3*q0*q0*q3*q3 + 1*p1*p2*p3*q0*q1*q2*q3 + 1*p1*p2*p4*q0*q0*q2*q3 + 2*p1*p2*p4*q0*q1*q1*q3 - 1*p1*p2*p4*q0*q1*q2*q2 + 2*p1*p3*p3*q0*q0*q2*q3 - 1*p1*p3*p3*q0*q1*q1*q3 - 1*p1*p3*p4*q0*q0*q1*q3 - 2*p1*p3*p4*q0*q0*q2*q2 + 1*p1*p3*p4*q0*q1*q1*q2 - 3*p1*p4*p4*q0*q0*q0*q3 + 3*p1*p4*p4*q0*q0*q1*q2 - 1*p1*p4*p4*q0*q1*q1*q1 + 1*p2*p2*p2*q0*q0*q3*q3 - 1*p2*p2*p3*q0*q0*q2*q3 - 2*p2*p2*p4*q0*q0*q1*q3 + 1*p2*p2*p4*q0*q0*q2*q2 + 1*p2*p3*p3*q0*q0*q1*q3 + 3*p2*p3*p4*q0*q0*q0*q3 - 1*p2*p3*p4*q0*q0*q1*q2 - 2*p2*p4*p4*q0*q0*q0*q2 + 1*p2*p4*p4*q0*q0*q1*q1 - 1*p3*p3*p3*q0*q0*q0*q3 + 1*p3*p3*p4*q0*q0*q0*q2 - 1*p3*p4*p4*q0*q0*q0*q1 + 1*p4*p4*p4*q0*q0*q0*q0
noncomputable def R23 (p0 p1 p2 q0 q1 q2 q3 : Int) : Int := 1*p0*p0*p0*q3*q3 - 1*p0*p0*p1*q2*q3 - 2*p0*p0*p2*q1*q3 + 1*p0*p0*p2*q2*q2 + 1*p0*p1*p1*q1*q3 + 3*p0*p1*p2*q0*q3 - 1*p0*p1*p2*q1*q2 - 2*p0*p2*p2*q0*q2 + 1*p0*p2*p2*q1*q1 - 1*p1*p1*p1*q0*q3 + 1*p1*p1*p2*q0*q2 - 1*p1*p2*p2*q0*q1 + 1*p2*p2*p2*q0*q0
theorem k43 (u0 u1 c0 c1 c2 q0 q1 q2 q3 : Int) : R43 (u0 * q0 + c0) (u1 * q0 + u0 * q1 + c1) (u1 * q1 + u0 * q2 + c2) (u1 * q2 + u0 * q3) (u1 * q3) q0 q1 q2 q3 = q3 ^ 2 * R23 c0 c1 c2 q0 q1 q2 q3 := by
  unfold R43 R23
  grind
end Mine
end

section
set_option maxHeartbeats 8000000
namespace Mine
/-- the pseudo-remainder of a cubic by a quadratic -/
noncomputable def d1 (c0 c1 c2 q0 q1 q2 q3 : Int) : Int := c2 * (c2 * q1 - q3 * c0) - (c2 * q2 - q3 * c1) * c1
noncomputable def d0 (c0 c1 c2 q0 q1 q2 q3 : Int) : Int := c2 * (c2 * q0) - (c2 * q2 - q3 * c1) * c0
theorem k21 (c0 c1 c2 q0 q1 q2 q3 : Int) : d1 c0 c1 c2 q0 q1 q2 q3 ^ 2 * c0 - d1 c0 c1 c2 q0 q1 q2 q3 * d0 c0 c1 c2 q0 q1 q2 q3 * c1 + d0 c0 c1 c2 q0 q1 q2 q3 ^ 2 * c2 = c2 ^ 2 * R23 c0 c1 c2 q0 q1 q2 q3 := by
  unfold d1 d0 R23
  grind
end Mine
end

section
set_option maxHeartbeats 8000000
namespace Mine
noncomputable def R32 (p0 p1 p2 p3 q0 q1 q2 : Int) : Int := 1*p0*p0*q2*q2*q2 - 1*p0*p1*q1*q2*q2 - 2*p0*p2*q0*q2*q2 + 1*p0*p2*q1*q1*q2 + 3*p0*p3*q0*q1*q2 - 1*p0*p3*q1*q1*q1 + 1*p1*p1*q0*q2*q2 - 1*p1*p2*q0*q1*q2 - 2*p1*p3*q0*q0*q2 + 1*p1*p3*q0*q1*q1 + 1*p2*p2*q0*q0*q2 - 1*p2*p3*q0*q0*q1 + 1*p3*p3*q0*q0*q0
noncomputable def R12 (p0 p1 q0 q1 q2 : Int) : Int := 1*p0*p0*q2 - 1*p0*p1*q1 + 1*p1*p1*q0
theorem k32 (u0 u1 c0 c1 q0 q1 q2 : Int) : R32 (u0 * q0 + c0) (u1 * q0 + u0 * q1 + c1) (u1 * q1 + u0 * q2) (u1 * q2) q0 q1 q2 = q2 ^ 2 * R12 c0 c1 q0 q1 q2 := by
  unfold R32 R12
  grind
theorem R43_disc (e d c b a : Int) : 27 * R43 e d c b a d (2 * c) (3 * b) (4 * a) = a * (4 * (12 * a * e - 3 * b * d + c * c) ^ 3 - (72 * a * c * e + 9 * b * c * d - 27 * a * d * d - 27 * e * b * b - 2 * c ^ 3) ^ 2) := by
  unfold R43
  grind
theorem R32_disc (e d c b : Int) : 27 * b ^ 2 * R32 e d c b d (2 * c) (3 * b) = -b * (4 * (- 3 * b * d + c * c) ^ 3 - (9 * b * c * d - 27 * e * b * b - 2 * c ^ 3) ^ 2) := by
  unfold R32
  grind
end Mine
end

section
set_option maxHeartbeats 8000000
namespace Mine
theorem R43_hom (k l p0 p1 p2 p3 p4 q0 q1 q2 q3 : Int) : R43 (k * p0) (k * p1) (k * p2) (k * p3) (k * p4) (l * q0) (l * q1) (l * q2) (l * q3) = k ^ 3 * l ^ 4 * R43 p0 p1 p2 p3 p4 q0 q1 q2 q3 := by
  unfold R43
  grind
theorem R32_hom (k l p0 p1 p2 p3 q0 q1 q2 : Int) : R32 (k * p0) (k * p1) (k * p2) (k * p3) (l * q0) (l * q1) (l * q2) = k ^ 2 * l ^ 3 * R32 p0 p1 p2 p3 q0 q1 q2 := by
  unfold R32
  grind
/-- the second remainder has the first lead's square in it: the first subresultant -/
theorem R12_sq (c0 q0 q1 q2 : Int) : R12 c0 0 q0 q1 q2 = c0 ^ 2 * q2 := by
  unfold R12
  grind
theorem R23_c0 (c0 q0 q1 q2 q3 : Int) : R23 c0 0 0 q0 q1 q2 q3 = c0 ^ 3 * q3 ^ 2 := by
  unfold R23
  grind
end Mine
end

section
set_option maxHeartbeats 4000000
namespace Mine
theorem ring1 (L l R B F X q : Int) : L * l * (R + F * B) = L * (l * R - X * (q * B) + (l * F + X * q) * B) := by grind
theorem ring2 (l F X q : Int) : l * F - X * -q = l * F + X * q := by grind
theorem ring3 (L M A r u B : Int) (h : L * A = r + u * B) : L * M * A = M * u * B + M * r := by grind
theorem psG_spec {b : List Int} (hb : b ≠ []) : ∀ (n : Nat) (rest found : List Int) (left M : Nat), rest.length ≤ n → rest.length + 1 ≤ b.length + left → found.length ≤ M → rest.length + 1 ≤ b.length + M →
    (psG b rest found left).2.2 ≤ left ∧ (psG b rest found left).2.1.length ≤ M ∧ (∀ x, leadL b ^ (left - (psG b rest found left).2.2) * (ev rest x + ev found x * ev b x) = ev (psG b rest found left).1 x + ev (psG b rest found left).2.1 x * ev b x) ∧
    (Tm rest → Tm (psG b rest found left).1) ∧ ∀ ka kb, Nb ka rest → Nb kb b → ∃ k', Nb k' (psG b rest found left).1 ∧ k' + (kb + 1) * (psG b rest found left).2.2 ≤ ka + (kb + 1) * left := by
  have hb0 : 0 < b.length := List.length_pos_iff.mpr hb
  intro n
  induction n with
  | zero =>
    intro rest found left M hn h1 h2 h3
    rw [psG_stop (by omega)]
    refine ⟨Nat.le_refl _, h2, fun x => ?_, fun h => h, fun ka kb hk _ => ⟨ka, hk, Nat.le_refl _⟩⟩
    show leadL b ^ (left - left) * _ = _
    rw [Nat.sub_self, Int.pow_zero, Int.one_mul]
  | succ n ih =>
    intro rest found left M hn h1 h2 h3
    by_cases hle : b.length ≤ rest.length
    · rw [psG_step hb hle]
      have hlt := psRest_lt hb hle
      have hfl : (psFound b rest found).length ≤ M := by
        unfold psFound
        have q1 := subL_length (scaleL found (leadL b)) (raiseL [-(leadL rest)] (rest.length - b.length))
        have q2 := scaleL_length found (leadL b)
        have q3 := raiseL_length [-(leadL rest)] (rest.length - b.length)
        simp only [List.length_singleton] at q3
        omega
      obtain ⟨g1, g2, g3, g4, g5⟩ := ih (psRest b rest) (psFound b rest found) (left - 1) M (by omega) (by omega) hfl (by omega)
      generalize hz : psG b (psRest b rest) (psFound b rest found) (left - 1) = z at *
      refine ⟨by omega, g2, fun x => ?_, fun _ => g4 (Tm.sub _ _), fun ka kb hka hkb => ?_⟩
      · have e : left - z.2.2 = (left - 1 - z.2.2) + 1 := by omega
        rw [e, Int.pow_succ, ← g3 x]
        have r1 : ev (psRest b rest) x = leadL b * ev rest x - x ^ (rest.length - b.length) * (leadL rest * ev b x) := by unfold psRest; rw [ev_sub, ev_scale, ev_raise, ev_scale]
        have r2 : ev (psFound b rest found) x = leadL b * ev found x + x ^ (rest.length - b.length) * leadL rest := by
          unfold psFound; rw [ev_sub, ev_scale, ev_raise, ev1 (xs := [-(leadL rest)]) (by simp)]; exact ring2 _ _ _ _
        rw [r1, r2]
        exact ring1 _ _ _ _ _ _ _
      · obtain ⟨k', q1, q2⟩ := g5 (ka + kb + 1) kb (Nb.psRest hka hkb) hkb
        refine ⟨k', q1, ?_⟩
        have : (kb + 1) * left = (kb + 1) * (left - 1) + (kb + 1) := by
          conv => lhs; rw [show left = (left - 1) + 1 by omega, Nat.mul_add, Nat.mul_one]
        omega
    · rw [psG_stop hle]
      refine ⟨Nat.le_refl _, h2, fun x => ?_, fun h => h, fun ka kb hk _ => ⟨ka, hk, Nat.le_refl _⟩⟩
      show leadL b ^ (left - left) * _ = _
      rw [Nat.sub_self, Int.pow_zero, Int.one_mul]
/-- pseudo division: lead^many * a = quotient * b + rest -/
theorem pseudo_spec {a b : List Int} (hb : b ≠ []) (ha : Tm a) : ∃ u : List Int, u.length ≤ manyL a b ∧ (∀ x, leadL b ^ manyL a b * ev a x = ev u x * ev b x + ev (pseudoL a b).2 x) ∧ Tm (pseudoL a b).2 ∧ (pseudoL a b).2.length < b.length ∧
    ∀ ka kb, Nb ka a → Nb kb b → Nb (ka + (kb + 1) * manyL a b) (pseudoL a b).2 := by
  obtain ⟨g1, g2, g3, g4, g5⟩ := psG_spec hb a.length a [] (manyL a b) (manyL a b) (Nat.le_refl _) (by unfold manyL; omega) (Nat.zero_le _) (by unfold manyL; omega)
  have hlt := pseudoL_length (a := a) hb
  unfold pseudoL at *
  generalize hz : psG b a [] (manyL a b) = z at *
  refine ⟨scaleL z.2.1 (leadL b ^ z.2.2), Nat.le_trans (scaleL_length _ _) g2, fun x => ?_, (g4 ha).scale _, hlt, fun ka kb hka hkb => ?_⟩
  · have h := g3 x
    rw [ev_nil, Int.zero_mul, Int.add_zero] at h
    show _ = ev (scaleL z.2.1 _) x * _ + ev (scaleL z.1 _) x
    rw [ev_scale, ev_scale]
    have e : manyL a b = (manyL a b - z.2.2) + z.2.2 := by omega
    have e2 : leadL b ^ manyL a b = leadL b ^ (manyL a b - z.2.2) * leadL b ^ z.2.2 := by rw [← Int.pow_add, ← e]
    rw [e2]
    exact ring3 _ _ _ _ _ _ h
  · obtain ⟨k', q1, q2⟩ := g5 ka kb hka hkb
    have hpow : (leadL b ^ z.2.2).natAbs ≤ 2 ^ (kb * z.2.2) := by
      rw [Int.natAbs_pow, Nat.pow_mul]
      exact Nat.pow_le_pow_left (Nat.le_trans (leadL_natAbs b) hkb) _
    have hkl : kb * z.2.2 ≤ (kb + 1) * z.2.2 := Nat.mul_le_mul_right _ (by omega)
    exact (Nb.scale q1 hpow).le (by omega)
end Mine
end

section
set_option maxHeartbeats 8000000
namespace Mine
/-- the first subresultant of a quartic and a cubic -/
noncomputable def Sb1 (p0 p1 p2 p3 p4 q0 q1 q2 q3 : Int) : Int := -1*p0*p2*q3*q3*q3 + 1*p0*p3*q2*q3*q3 + 1*p0*p4*q1*q3*q3 - 1*p0*p4*q2*q2*q3 + 1*p1*p1*q3*q3*q3 - 1*p1*p2*q2*q3*q3 - 2*p1*p3*q1*q3*q3 + 1*p1*p3*q2*q2*q3 - 2*p1*p4*q0*q3*q3 + 3*p1*p4*q1*q2*q3 - 1*p1*p4*q2*q2*q2 + 1*p2*p2*q1*q3*q3 + 1*p2*p3*q0*q3*q3 - 1*p2*p3*q1*q2*q3 - 2*p2*p4*q1*q1*q3 + 1*p2*p4*q1*q2*q2 - 1*p3*p3*q0*q2*q3 + 1*p3*p3*q1*q1*q3 + 1*p3*p4*q0*q1*q3 + 1*p3*p4*q0*q2*q2 - 1*p3*p4*q1*q1*q2 + 1*p4*p4*q0*q0*q3 - 2*p4*p4*q0*q1*q2 + 1*p4*p4*q1*q1*q1
noncomputable def Sb0 (p0 p1 p2 p3 p4 q0 q1 q2 q3 : Int) : Int := 1*p0*p1*q3*q3*q3 - 1*p0*p2*q2*q3*q3 - 1*p0*p3*q1*q3*q3 + 1*p0*p3*q2*q2*q3 - 1*p0*p4*q0*q3*q3 + 2*p0*p4*q1*q2*q3 - 1*p0*p4*q2*q2*q2 - 1*p1*p3*q0*q3*q3 + 1*p1*p4*q0*q2*q3 + 1*p2*p2*q0*q3*q3 - 1*p2*p3*q0*q2*q3 - 2*p2*p4*q0*q1*q3 + 1*p2*p4*q0*q2*q2 + 1*p3*p3*q0*q1*q3 + 1*p3*p4*q0*q0*q3 - 1*p3*p4*q0*q1*q2 - 1*p4*p4*q0*q0*q2 + 1*p4*p4*q0*q1*q1
theorem cancel {k a b : Int} (hk : k ≠ 0) (h : k * a = k * b) : a = b := Int.eq_of_mul_eq_mul_left hk h
theorem sq_ne {k : Int} (hk : k ≠ 0) : k ^ 2 ≠ 0 := by rw [sq_]; exact Int.mul_ne_zero hk hk
theorem st1 {q u p : Int} (h : q ^ 2 * p = u * q) : q * u = q * (q * p) := by grind
theorem st2 {q p4 p3 u0 q2 : Int} (h : q ^ 2 * p3 = q * p4 * q2 + u0 * q) : q * u0 = q * (q * p3 - p4 * q2) := by grind
theorem st3 {q2 R R' h : Int} (h1 : h = q2 * R') (h2 : h = q2 ^ 3 * R) : q2 * R' = q2 * (q2 ^ 2 * R) := by grind
theorem pw4 (q : Int) : (q ^ 2) ^ 2 = q ^ 4 := by grind
theorem alg43 {p0 p1 p2 p3 p4 q0 q1 q2 q3 u0 u1 c0 c1 c2 : Int} (h3 : q3 ≠ 0) (e0 : q3 ^ 2 * p0 = u0 * q0 + c0) (e1 : q3 ^ 2 * p1 = u1 * q0 + u0 * q1 + c1) (e2 : q3 ^ 2 * p2 = u1 * q1 + u0 * q2 + c2) (e3 : q3 ^ 2 * p3 = u1 * q2 + u0 * q3) (e4 : q3 ^ 2 * p4 = u1 * q3) :
    u1 = q3 * p4 ∧ u0 = q3 * p3 - p4 * q2 ∧ R23 c0 c1 c2 q0 q1 q2 q3 = q3 ^ 4 * R43 p0 p1 p2 p3 p4 q0 q1 q2 q3 := by
  have hu1 : u1 = q3 * p4 := cancel h3 (st1 e4)
  have hu0 : u0 = q3 * p3 - p4 * q2 := cancel h3 (st2 (hu1 ▸ e3))
  refine ⟨hu1, hu0, ?_⟩
  have h := k43 u0 u1 c0 c1 c2 q0 q1 q2 q3
  rw [← e0, ← e1, ← e2, ← e3, ← e4] at h
  have h2 := R43_hom (q3 ^ 2) 1 p0 p1 p2 p3 p4 q0 q1 q2 q3
  rw [Int.one_mul, Int.one_mul, Int.one_mul, Int.one_mul, Int.one_pow, Int.mul_one] at h2
  rw [← pw4]
  exact cancel (sq_ne h3) (st3 h h2)
theorem s5 {c v q3 : Int} (h : c ^ 2 * q3 = v * c) : c * v = c * (c * q3) := by grind
theorem s6 {c2 q2 q3 c1 v0 : Int} (h : c2 ^ 2 * q2 = c2 * q3 * c1 + v0 * c2) : c2 * v0 = c2 * (c2 * q2 - q3 * c1) := by grind
theorem s7 {c0 c1 c2 q0 q1 q2 q3 m1 : Int} (h : c2 ^ 2 * q1 = c2 * q3 * c0 + (c2 * q2 - q3 * c1) * c1 + m1) : m1 = d1 c0 c1 c2 q0 q1 q2 q3 := by unfold d1; grind
theorem s8 {c0 c1 c2 q0 q1 q2 q3 m0 : Int} (h : c2 ^ 2 * q0 = (c2 * q2 - q3 * c1) * c0 + m0) : m0 = d0 c0 c1 c2 q0 q1 q2 q3 := by unfold d0; grind
/-- a cubic by a quadratic -/
theorem alg32 {q0 q1 q2 q3 c0 c1 c2 v0 v1 m0 m1 : Int} (h2 : c2 ≠ 0) (e0 : c2 ^ 2 * q0 = v0 * c0 + m0) (e1 : c2 ^ 2 * q1 = v1 * c0 + v0 * c1 + m1) (e2 : c2 ^ 2 * q2 = v1 * c1 + v0 * c2) (e3 : c2 ^ 2 * q3 = v1 * c2) :
    m1 = d1 c0 c1 c2 q0 q1 q2 q3 ∧ m0 = d0 c0 c1 c2 q0 q1 q2 q3 := by
  have hv1 : v1 = c2 * q3 := cancel h2 (s5 e3)
  have hv0 : v0 = c2 * q2 - q3 * c1 := cancel h2 (s6 (hv1 ▸ e2))
  subst hv1; subst hv0
  exact ⟨s7 e1, s8 e0⟩
theorem s9 (p0 p1 p2 p3 p4 q0 q1 q2 q3 : Int) : d1 (q3 ^ 2 * p0 - (q3 * p3 - p4 * q2) * q0) (q3 ^ 2 * p1 - (q3 * p4) * q0 - (q3 * p3 - p4 * q2) * q1) (q3 ^ 2 * p2 - (q3 * p4) * q1 - (q3 * p3 - p4 * q2) * q2) q0 q1 q2 q3 = q3 * q3 * Sb1 p0 p1 p2 p3 p4 q0 q1 q2 q3 := by
  unfold d1 Sb1; grind
theorem s10 (p0 p1 p2 p3 p4 q0 q1 q2 q3 : Int) : d0 (q3 ^ 2 * p0 - (q3 * p3 - p4 * q2) * q0) (q3 ^ 2 * p1 - (q3 * p4) * q0 - (q3 * p3 - p4 * q2) * q1) (q3 ^ 2 * p2 - (q3 * p4) * q1 - (q3 * p3 - p4 * q2) * q2) q0 q1 q2 q3 = q3 * q3 * Sb0 p0 p1 p2 p3 p4 q0 q1 q2 q3 := by
  unfold d0 Sb0; grind
theorem alg432 {p0 p1 p2 p3 p4 q0 q1 q2 q3 u0 u1 c0 c1 c2 : Int} (hu1 : u1 = q3 * p4) (hu0 : u0 = q3 * p3 - p4 * q2) (e0 : q3 ^ 2 * p0 = u0 * q0 + c0) (e1 : q3 ^ 2 * p1 = u1 * q0 + u0 * q1 + c1) (e2 : q3 ^ 2 * p2 = u1 * q1 + u0 * q2 + c2) :
    d1 c0 c1 c2 q0 q1 q2 q3 = q3 * q3 * Sb1 p0 p1 p2 p3 p4 q0 q1 q2 q3 ∧ d0 c0 c1 c2 q0 q1 q2 q3 = q3 * q3 * Sb0 p0 p1 p2 p3 p4 q0 q1 q2 q3 := by
  have f0 : c0 = q3 ^ 2 * p0 - u0 * q0 := by omega
  have f1 : c1 = q3 ^ 2 * p1 - u1 * q0 - u0 * q1 := by omega
  have f2 : c2 = q3 ^ 2 * p2 - u1 * q1 - u0 * q2 := by omega
  subst f0 f1 f2 hu1 hu0
  exact ⟨s9 _ _ _ _ _ _ _ _ _, s10 _ _ _ _ _ _ _ _ _⟩
theorem s11 {a1 a2 b0 b1 u0 : Int} (h : b1 ^ 2 * a1 = b1 * a2 * b0 + u0 * b1) : b1 * u0 = b1 * (b1 * a1 - a2 * b0) := by grind
theorem s12 {a0 a1 a2 b0 b1 m0 : Int} (h : b1 ^ 2 * a0 = (b1 * a1 - a2 * b0) * b0 + m0) : m0 = b1 ^ 2 * a0 - b1 * b0 * a1 + b0 ^ 2 * a2 := by grind
/-- a quadratic, a cubic by a line -/
theorem alg21 {a0 a1 a2 b0 b1 u0 u1 m0 : Int} (h1 : b1 ≠ 0) (e0 : b1 ^ 2 * a0 = u0 * b0 + m0) (e1 : b1 ^ 2 * a1 = u1 * b0 + u0 * b1) (e2 : b1 ^ 2 * a2 = u1 * b1) : m0 = b1 ^ 2 * a0 - b1 * b0 * a1 + b0 ^ 2 * a2 := by
  have hu1 : u1 = b1 * a2 := cancel h1 (st1 e2)
  have hu0 : u0 = b1 * a1 - a2 * b0 := cancel h1 (s11 (hu1 ▸ e1))
  subst hu1; subst hu0
  exact s12 e0
theorem s13 {b1 a3 u2 : Int} (h : b1 ^ 3 * a3 = u2 * b1) : b1 * u2 = b1 * (b1 ^ 2 * a3) := by grind
theorem s14 {b1 b0 a2 a3 u1 : Int} (h : b1 ^ 3 * a2 = b1 ^ 2 * a3 * b0 + u1 * b1) : b1 * u1 = b1 * (b1 ^ 2 * a2 - b1 * a3 * b0) := by grind
theorem s15 {b1 b0 a1 a2 a3 u0 : Int} (h : b1 ^ 3 * a1 = (b1 ^ 2 * a2 - b1 * a3 * b0) * b0 + u0 * b1) : b1 * u0 = b1 * (b1 ^ 2 * a1 - b1 * a2 * b0 + a3 * b0 ^ 2) := by grind
theorem s16 {b1 b0 a0 a1 a2 a3 m0 : Int} (h : b1 ^ 3 * a0 = (b1 ^ 2 * a1 - b1 * a2 * b0 + a3 * b0 ^ 2) * b0 + m0) : m0 = b1 ^ 3 * a0 - b1 ^ 2 * b0 * a1 + b1 * b0 ^ 2 * a2 - b0 ^ 3 * a3 := by grind
theorem alg31 {a0 a1 a2 a3 b0 b1 u0 u1 u2 m0 : Int} (h1 : b1 ≠ 0) (e0 : b1 ^ 3 * a0 = u0 * b0 + m0) (e1 : b1 ^ 3 * a1 = u1 * b0 + u0 * b1) (e2 : b1 ^ 3 * a2 = u2 * b0 + u1 * b1) (e3 : b1 ^ 3 * a3 = u2 * b1) : m0 = b1 ^ 3 * a0 - b1 ^ 2 * b0 * a1 + b1 * b0 ^ 2 * a2 - b0 ^ 3 * a3 := by
  have hu2 : u2 = b1 ^ 2 * a3 := cancel h1 (s13 e3)
  have hu1 : u1 = b1 ^ 2 * a2 - b1 * a3 * b0 := cancel h1 (s14 (hu2 ▸ e2))
  have hu0 : u0 = b1 ^ 2 * a1 - b1 * a2 * b0 + a3 * b0 ^ 2 := cancel h1 (s15 (hu1 ▸ e1))
  subst hu2; subst hu1; subst hu0
  exact s16 e0
theorem s17 {q2 R R' h : Int} (h1 : h = q2 * R') (h2 : h = q2 ^ 2 * R) : q2 * R' = q2 * (q2 * R) := by grind
theorem alg3q {p0 p1 p2 p3 q0 q1 q2 u0 u1 c0 c1 : Int} (h2 : q2 ≠ 0) (e0 : q2 ^ 2 * p0 = u0 * q0 + c0) (e1 : q2 ^ 2 * p1 = u1 * q0 + u0 * q1 + c1) (e2 : q2 ^ 2 * p2 = u1 * q1 + u0 * q2) (e3 : q2 ^ 2 * p3 = u1 * q2) :
    R12 c0 c1 q0 q1 q2 = q2 ^ 2 * R32 p0 p1 p2 p3 q0 q1 q2 := by
  have h := k32 u0 u1 c0 c1 q0 q1 q2
  rw [← e0, ← e1, ← e2, ← e3] at h
  have h3 := R32_hom (q2 ^ 2) 1 p0 p1 p2 p3 q0 q1 q2
  rw [Int.one_mul, Int.one_mul, Int.one_mul, Int.one_pow, Int.mul_one] at h3
  exact cancel (sq_ne h2) (s17 h h3)
end Mine
end

section
set_option maxHeartbeats 8000000
namespace Mine
theorem rg54 {k p0 p1 p2 p3 p4 u0 u1 q0 q1 q2 q3 c0 c1 c2 x : Int} (h : k * (p0 + p1 * x + p2 * x ^ 2 + p3 * x ^ 3 + p4 * x ^ 4) = (u0 + u1 * x) * (q0 + q1 * x + q2 * x ^ 2 + q3 * x ^ 3) + (c0 + c1 * x + c2 * x ^ 2)) :
    k * p0 + k * p1 * x + k * p2 * x ^ 2 + k * p3 * x ^ 3 + k * p4 * x ^ 4 = (u0 * q0 + c0) + (u1 * q0 + u0 * q1 + c1) * x + (u1 * q1 + u0 * q2 + c2) * x ^ 2 + (u1 * q2 + u0 * q3) * x ^ 3 + (u1 * q3) * x ^ 4 := by grind
theorem rg43 {k q0 q1 q2 q3 v0 v1 c0 c1 c2 m0 m1 x : Int} (h : k * (q0 + q1 * x + q2 * x ^ 2 + q3 * x ^ 3) = (v0 + v1 * x) * (c0 + c1 * x + c2 * x ^ 2) + (m0 + m1 * x)) :
    k * q0 + k * q1 * x + k * q2 * x ^ 2 + k * q3 * x ^ 3 = (v0 * c0 + m0) + (v1 * c0 + v0 * c1 + m1) * x + (v1 * c1 + v0 * c2) * x ^ 2 + (v1 * c2) * x ^ 3 := by grind
theorem rg42 {k a0 a1 a2 a3 u0 u1 u2 b0 b1 m0 x : Int} (h : k * (a0 + a1 * x + a2 * x ^ 2 + a3 * x ^ 3) = (u0 + u1 * x + u2 * x ^ 2) * (b0 + b1 * x) + m0) :
    k * a0 + k * a1 * x + k * a2 * x ^ 2 + k * a3 * x ^ 3 = (u0 * b0 + m0) + (u1 * b0 + u0 * b1) * x + (u2 * b0 + u1 * b1) * x ^ 2 + (u2 * b1) * x ^ 3 := by grind
theorem rg32 {k a0 a1 a2 u0 u1 b0 b1 m0 x : Int} (h : k * (a0 + a1 * x + a2 * x ^ 2) = (u0 + u1 * x) * (b0 + b1 * x) + m0) :
    k * a0 + k * a1 * x + k * a2 * x ^ 2 = (u0 * b0 + m0) + (u1 * b0 + u0 * b1) * x + (u1 * b1) * x ^ 2 := by grind
theorem ne_of_len {b : List Int} {n : Nat} (h : b.length = n) (hn : 0 < n) : b ≠ [] := fun e => by rw [e] at h; simp at h; omega
theorem lead_of {b : List Int} {n : Nat} (h : b.length = n + 1) : leadL b = b.getD n 0 := by rw [leadL_getD (ne_of_len h (by omega)), h]; rfl
theorem lead_ne {b : List Int} {n : Nat} (h : b.length = n + 1) (t : Tm b) : b.getD n 0 ≠ 0 := by have := t (ne_of_len h (by omega)); rwa [h] at this
theorem lit_ev4 (a b c d x : Int) : ev [a, b, c, d] x = a + b * x + c * x ^ 2 + d * x ^ 3 := by rw [ev4 (by simp)]; rfl
theorem lit_ev5 (a b c d e x : Int) : ev [a, b, c, d, e] x = a + b * x + c * x ^ 2 + d * x ^ 3 + e * x ^ 4 := by rw [ev5 (by simp)]; rfl
theorem lit_ev3 (a b c x : Int) : ev [a, b, c] x = a + b * x + c * x ^ 2 := by rw [ev3 (by simp)]; rfl
noncomputable def r43 (p q : List Int) : Int := R43 (p.getD 0 0) (p.getD 1 0) (p.getD 2 0) (p.getD 3 0) (p.getD 4 0) (q.getD 0 0) (q.getD 1 0) (q.getD 2 0) (q.getD 3 0)
noncomputable def r32 (p q : List Int) : Int := R32 (p.getD 0 0) (p.getD 1 0) (p.getD 2 0) (p.getD 3 0) (q.getD 0 0) (q.getD 1 0) (q.getD 2 0)
noncomputable def r23 (c q : List Int) : Int := R23 (c.getD 0 0) (c.getD 1 0) (c.getD 2 0) (q.getD 0 0) (q.getD 1 0) (q.getD 2 0) (q.getD 3 0)
noncomputable def dd1 (c q : List Int) : Int := d1 (c.getD 0 0) (c.getD 1 0) (c.getD 2 0) (q.getD 0 0) (q.getD 1 0) (q.getD 2 0) (q.getD 3 0)
noncomputable def dd0 (c q : List Int) : Int := d0 (c.getD 0 0) (c.getD 1 0) (c.getD 2 0) (q.getD 0 0) (q.getD 1 0) (q.getD 2 0) (q.getD 3 0)
/-- a quartic by a cubic -/
theorem ps54 {p q : List Int} (hp : p.length = 5) (hq : q.length = 4) (tp : Tm p) (tq : Tm q) : (pseudoL p q).2.length ≤ 3 ∧ Tm (pseudoL p q).2 ∧ r23 (pseudoL p q).2 q = q.getD 3 0 ^ 4 * r43 p q ∧
    (∃ e1 e0, dd1 (pseudoL p q).2 q = q.getD 3 0 * q.getD 3 0 * e1 ∧ dd0 (pseudoL p q).2 q = q.getD 3 0 * q.getD 3 0 * e0) ∧ (∀ kp kq, Nb kp p → Nb kq q → Nb (kp + (kq + 1) * 2) (pseudoL p q).2) := by
  obtain ⟨u, hu, hx, ht, hlt, hnb⟩ := pseudo_spec (ne_of_len hq (by omega)) tp
  have hm : manyL p q = 2 := by unfold manyL; omega
  have h3 := lead_ne hq tq
  rw [hm] at hu hx hnb
  rw [lead_of hq] at hx
  have hc : (pseudoL p q).2.length ≤ 3 := by omega
  generalize (pseudoL p q).2 = c at *
  have h := ev_inj (xs := [q.getD 3 0 ^ 2 * p.getD 0 0, q.getD 3 0 ^ 2 * p.getD 1 0, q.getD 3 0 ^ 2 * p.getD 2 0, q.getD 3 0 ^ 2 * p.getD 3 0, q.getD 3 0 ^ 2 * p.getD 4 0])
    (ys := [u.getD 0 0 * q.getD 0 0 + c.getD 0 0, u.getD 1 0 * q.getD 0 0 + u.getD 0 0 * q.getD 1 0 + c.getD 1 0, u.getD 1 0 * q.getD 1 0 + u.getD 0 0 * q.getD 2 0 + c.getD 2 0, u.getD 1 0 * q.getD 2 0 + u.getD 0 0 * q.getD 3 0, u.getD 1 0 * q.getD 3 0]) (fun x => by
      have hh := hx x
      rw [ev5 (xs := p) (by omega), ev2 hu, ev4 (xs := q) (by omega), ev3 hc] at hh
      rw [lit_ev5, lit_ev5]
      exact rg54 hh)
  obtain ⟨a1, a2, a3⟩ := alg43 h3 (h 0) (h 1) (h 2) (h 3) (h 4)
  obtain ⟨b1, b2⟩ := alg432 a1 a2 (h 0) (h 1) (h 2)
  exact ⟨hc, ht, a3, ⟨_, _, b1, b2⟩, hnb⟩
/-- a cubic by a quadratic -/
theorem ps43 {q c : List Int} (hq : q.length = 4) (hc : c.length = 3) (tq : Tm q) (tc : Tm c) : (pseudoL q c).2.length ≤ 2 ∧ Tm (pseudoL q c).2 ∧ (pseudoL q c).2.getD 1 0 = dd1 c q ∧ (pseudoL q c).2.getD 0 0 = dd0 c q ∧ (∀ kp kq, Nb kp q → Nb kq c → Nb (kp + (kq + 1) * 2) (pseudoL q c).2) := by
  obtain ⟨u, hu, hx, ht, hlt, hnb⟩ := pseudo_spec (ne_of_len hc (by omega)) tq
  have hm : manyL q c = 2 := by unfold manyL; omega
  have h3 := lead_ne hc tc
  rw [hm] at hu hx hnb
  rw [lead_of hc] at hx
  have hd : (pseudoL q c).2.length ≤ 2 := by omega
  generalize (pseudoL q c).2 = m at *
  have h := ev_inj (xs := [c.getD 2 0 ^ 2 * q.getD 0 0, c.getD 2 0 ^ 2 * q.getD 1 0, c.getD 2 0 ^ 2 * q.getD 2 0, c.getD 2 0 ^ 2 * q.getD 3 0])
    (ys := [u.getD 0 0 * c.getD 0 0 + m.getD 0 0, u.getD 1 0 * c.getD 0 0 + u.getD 0 0 * c.getD 1 0 + m.getD 1 0, u.getD 1 0 * c.getD 1 0 + u.getD 0 0 * c.getD 2 0, u.getD 1 0 * c.getD 2 0]) (fun x => by
      have hh := hx x
      rw [ev4 (xs := q) (by omega), ev2 hu, ev3 (xs := c) (by omega), ev2 hd] at hh
      rw [lit_ev4, lit_ev4]
      exact rg43 hh)
  obtain ⟨a1, a2⟩ := alg32 h3 (h 0) (h 1) (h 2) (h 3)
  exact ⟨hd, ht, a1, a2, hnb⟩
/-- a cubic by a quadratic, its resultant -/
theorem ps43r {p q : List Int} (hp : p.length = 4) (hq : q.length = 3) (tp : Tm p) (tq : Tm q) : (pseudoL p q).2.length ≤ 2 ∧ Tm (pseudoL p q).2 ∧ R12 ((pseudoL p q).2.getD 0 0) ((pseudoL p q).2.getD 1 0) (q.getD 0 0) (q.getD 1 0) (q.getD 2 0) = q.getD 2 0 ^ 2 * r32 p q ∧ (∀ kp kq, Nb kp p → Nb kq q → Nb (kp + (kq + 1) * 2) (pseudoL p q).2) := by
  obtain ⟨u, hu, hx, ht, hlt, hnb⟩ := pseudo_spec (ne_of_len hq (by omega)) tp
  have hm : manyL p q = 2 := by unfold manyL; omega
  have h3 := lead_ne hq tq
  rw [hm] at hu hx hnb
  rw [lead_of hq] at hx
  have hd : (pseudoL p q).2.length ≤ 2 := by omega
  generalize (pseudoL p q).2 = m at *
  have h := ev_inj (xs := [q.getD 2 0 ^ 2 * p.getD 0 0, q.getD 2 0 ^ 2 * p.getD 1 0, q.getD 2 0 ^ 2 * p.getD 2 0, q.getD 2 0 ^ 2 * p.getD 3 0])
    (ys := [u.getD 0 0 * q.getD 0 0 + m.getD 0 0, u.getD 1 0 * q.getD 0 0 + u.getD 0 0 * q.getD 1 0 + m.getD 1 0, u.getD 1 0 * q.getD 1 0 + u.getD 0 0 * q.getD 2 0, u.getD 1 0 * q.getD 2 0]) (fun x => by
      have hh := hx x
      rw [ev4 (xs := p) (by omega), ev2 hu, ev3 (xs := q) (by omega), ev2 hd] at hh
      rw [lit_ev4, lit_ev4]
      exact rg43 hh)
  exact ⟨hd, ht, alg3q h3 (h 0) (h 1) (h 2) (h 3), hnb⟩
/-- a cubic by a line -/
theorem ps42 {a b : List Int} (ha : a.length = 4) (hb : b.length = 2) (ta : Tm a) (tb : Tm b) : (pseudoL a b).2.length ≤ 1 ∧ Tm (pseudoL a b).2 ∧
    (pseudoL a b).2.getD 0 0 = b.getD 1 0 ^ 3 * a.getD 0 0 - b.getD 1 0 ^ 2 * b.getD 0 0 * a.getD 1 0 + b.getD 1 0 * b.getD 0 0 ^ 2 * a.getD 2 0 - b.getD 0 0 ^ 3 * a.getD 3 0 ∧ (∀ kp kq, Nb kp a → Nb kq b → Nb (kp + (kq + 1) * 3) (pseudoL a b).2) := by
  obtain ⟨u, hu, hx, ht, hlt, hnb⟩ := pseudo_spec (ne_of_len hb (by omega)) ta
  have hm : manyL a b = 3 := by unfold manyL; omega
  have h3 := lead_ne hb tb
  rw [hm] at hu hx hnb
  rw [lead_of hb] at hx
  have hd : (pseudoL a b).2.length ≤ 1 := by omega
  generalize (pseudoL a b).2 = m at *
  have h := ev_inj (xs := [b.getD 1 0 ^ 3 * a.getD 0 0, b.getD 1 0 ^ 3 * a.getD 1 0, b.getD 1 0 ^ 3 * a.getD 2 0, b.getD 1 0 ^ 3 * a.getD 3 0])
    (ys := [u.getD 0 0 * b.getD 0 0 + m.getD 0 0, u.getD 1 0 * b.getD 0 0 + u.getD 0 0 * b.getD 1 0, u.getD 2 0 * b.getD 0 0 + u.getD 1 0 * b.getD 1 0, u.getD 2 0 * b.getD 1 0]) (fun x => by
      have hh := hx x
      rw [ev4 (xs := a) (by omega), ev3 hu, ev2 (xs := b) (by omega), ev1 hd] at hh
      rw [lit_ev4, lit_ev4]
      exact rg42 hh)
  exact ⟨hd, ht, alg31 h3 (h 0) (h 1) (h 2) (h 3), hnb⟩
/-- a quadratic by a line -/
theorem ps32 {a b : List Int} (ha : a.length = 3) (hb : b.length = 2) (ta : Tm a) (tb : Tm b) : (pseudoL a b).2.length ≤ 1 ∧ Tm (pseudoL a b).2 ∧
    (pseudoL a b).2.getD 0 0 = b.getD 1 0 ^ 2 * a.getD 0 0 - b.getD 1 0 * b.getD 0 0 * a.getD 1 0 + b.getD 0 0 ^ 2 * a.getD 2 0 ∧ (∀ kp kq, Nb kp a → Nb kq b → Nb (kp + (kq + 1) * 2) (pseudoL a b).2) := by
  obtain ⟨u, hu, hx, ht, hlt, hnb⟩ := pseudo_spec (ne_of_len hb (by omega)) ta
  have hm : manyL a b = 2 := by unfold manyL; omega
  have h3 := lead_ne hb tb
  rw [hm] at hu hx hnb
  rw [lead_of hb] at hx
  have hd : (pseudoL a b).2.length ≤ 1 := by omega
  generalize (pseudoL a b).2 = m at *
  have h := ev_inj (xs := [b.getD 1 0 ^ 2 * a.getD 0 0, b.getD 1 0 ^ 2 * a.getD 1 0, b.getD 1 0 ^ 2 * a.getD 2 0])
    (ys := [u.getD 0 0 * b.getD 0 0 + m.getD 0 0, u.getD 1 0 * b.getD 0 0 + u.getD 0 0 * b.getD 1 0, u.getD 1 0 * b.getD 1 0]) (fun x => by
      have hh := hx x
      rw [ev3 (xs := a) (by omega), ev2 hu, ev2 (xs := b) (by omega), ev1 hd] at hh
      rw [lit_ev3, lit_ev3]
      exact rg32 hh)
  exact ⟨hd, ht, alg21 h3 (h 0) (h 1) (h 2), hnb⟩
end Mine
end

section
set_option maxHeartbeats 8000000
namespace Mine
theorem gcd_fold : ∀ (xs : List Int) (g : Int), (xs.foldl (fun g n => (Int.gcd g n : Int)) g ∣ g) ∧ ∀ x ∈ xs, xs.foldl (fun g n => (Int.gcd g n : Int)) g ∣ x
  | [], g => ⟨Int.dvd_refl g, fun x h => nomatch h⟩
  | y :: r, g => by
    obtain ⟨h1, h2⟩ := gcd_fold r (Int.gcd g y : Int)
    refine ⟨Int.dvd_trans h1 (Int.gcd_dvd_left ..), fun x hx => ?_⟩
    rcases List.mem_cons.mp hx with rfl | hx
    · exact Int.dvd_trans h1 (Int.gcd_dvd_right ..)
    · exact h2 x hx
theorem gcdL_dvd (xs : List Int) (i : Nat) : gcdL xs ∣ xs.getD i 0 := by
  by_cases h : i < xs.length
  · have : xs.getD i 0 ∈ xs := by simp [List.getD, h]
    exact (gcd_fold xs 0).2 _ this
  · rw [getD_ge (by omega)]; exact Int.dvd_zero _
theorem gcdL_ne {xs : List Int} {i : Nat} (h : xs.getD i 0 ≠ 0) : gcdL xs ≠ 0 := fun e => by
  have := gcdL_dvd xs i
  rw [e] at this
  exact h (Int.zero_dvd.mp this)
theorem gcdL_ne' {xs : List Int} (h : xs ≠ []) (t : Tm xs) : gcdL xs ≠ 0 := gcdL_ne (t h)
theorem gcdL_nb {xs : List Int} {k : Nat} (h : xs ≠ []) (t : Tm xs) (n : Nb k xs) : Bd k (gcdL xs) := by
  have hd := gcdL_dvd xs (xs.length - 1)
  have := Int.natAbs_dvd_natAbs.mpr hd
  exact Nat.le_trans (Nat.le_of_dvd (Int.natAbs_pos.mpr (t h)) this) (n.get _)
theorem divL_getD (xs : List Int) (k : Int) (i : Nat) : (divL xs k).getD i 0 = (xs.getD i 0).fdiv k := by
  unfold divL
  exact map_getD (fun n => n.fdiv k) (by simp) i
theorem divL_mul {xs : List Int} {k : Int} {i : Nat} (hk : k ≠ 0) (h : k ∣ xs.getD i 0) : k * (divL xs k).getD i 0 = xs.getD i 0 := by
  rw [divL_getD]
  obtain ⟨c, hc⟩ := h
  rw [hc, Int.mul_fdiv_cancel_left _ hk]
theorem Tm.div {xs : List Int} {k : Int} (hx : Tm xs) (hk : k ≠ 0) (h : ∀ i, k ∣ xs.getD i 0) : Tm (divL xs k) := by
  intro hne e
  have hne' : xs ≠ [] := fun q => hne (by rw [q]; rfl)
  have := divL_mul hk (h (xs.length - 1))
  rw [divL_length] at e
  rw [e] at this
  exact hx hne' (by rw [← this]; simp)
theorem divL_one (xs : List Int) : divL xs 1 = xs := by
  unfold divL
  simp
theorem divL_ev {xs : List Int} {k : Int} (hk : k ≠ 0) (h : ∀ i, k ∣ xs.getD i 0) (x : Int) : k * ev (divL xs k) x = ev xs x := by
  rw [← ev_scale]
  exact ev_coeff (fun i => by rw [scaleL_getD, Int.mul_comm]; exact divL_mul hk (h i)) x
theorem psok {a b : List Int} {ka kb : Nat} (la : a.length ≤ 10) (hb : b ≠ []) (lb : b.length ≤ 10) (na : Nb ka a) (nb : Nb kb b) (hk : ka + (kb + 1) * 12 ≤ 3000) : PsOk a b := by
  refine ⟨by omega, by omega, hb, ka, kb, na, nb, ?_⟩
  have hp := List.length_pos_iff.mpr hb
  have h1 : manyL a b + 1 ≤ 12 := by unfold manyL; omega
  have h2 : (kb + 1) * (manyL a b + 1) ≤ (kb + 1) * 12 := Nat.mul_le_mul_left _ h1
  omega
theorem RowRun.step1 {a b : List Int} {sign g h r : Int} (h1 : 1 < b.length) (h2 : a.length = b.length + 1) (h3 : PsOk a b) (sg : Sm g) (sh : Sm h) (hgh : g * h ≠ 0) (sgh : Sm (g * h)) (sl : Sm (leadL b))
    (hrun : RowRun b (divL (pseudoL a b).2 (g * h)) sign (leadL b) (leadL b) r) : RowRun a b sign g h r := by
  have e1 : a.length - b.length = 1 := by omega
  refine RowRun.step h1 (by omega) h3 sg sh ?_ ?_ ?_ (fun _ => ?_) sl ?_
  · rw [e1, p1_]; exact hgh
  · rw [e1, p1_]; exact sh
  · rw [e1, p1_]; exact sgh
  · rw [e1, show 1 - 1 = 0 from rfl, Int.pow_zero]; exact ⟨by decide, Sm.small (by decide)⟩
  · rw [e1, p1_, if_neg (by omega), if_pos (by decide), p1_, show 1 - 1 = 0 from rfl, Int.pow_zero, Int.fdiv_one]
    exact hrun
theorem RowRun.end2 {a b : List Int} {sign g h : Int} (ha : a.length = 2) (hb : b.length ≤ 1) (sb : Sm (b.getD 0 0)) (sh : Sm h) (ss : Sm sign) : RowRun a b sign g h (sign * b.getD 0 0) := by
  have e : rowEnd a b sign h = sign * b.getD 0 0 := by
    unfold rowEnd
    by_cases hb0 : b = []
    · rw [if_pos hb0, hb0]; simp
    · rw [if_neg hb0, if_pos (by omega), ha, show 2 - 1 = 1 from rfl, show 2 - 2 = 0 from rfl, p1_, Int.pow_zero, Int.fdiv_one]
  rw [← e]
  refine RowRun.stop hb (by omega) (fun _ _ => ?_) fun _ => ss
  rw [ha, show 2 - 1 = 1 from rfl, show 2 - 2 = 0 from rfl, p1_, Int.pow_zero, Int.fdiv_one]
  exact ⟨sb, sh, by decide, Sm.small (by decide), ss, sb⟩
theorem sm1 : Sm 1 := Sm.small (by decide)
theorem RowRun.end3 {a b : List Int} {g h R : Int} (ha : a.length = 3) (hb : b.length ≤ 1) (h0 : h ≠ 0) (e : b.getD 0 0 ^ 2 = h * R) (sb : Sm (b.getD 0 0)) (sh : Sm h) (sR : Sm R) : RowRun a b 1 g h R := by
  have er : (b.getD 0 0 ^ 2).fdiv (h ^ 1) = R := by rw [e, p1_, Int.mul_fdiv_cancel_left _ h0]
  have e' : rowEnd a b 1 h = R := by
    unfold rowEnd
    by_cases hb0 : b = []
    · rw [if_pos hb0]
      rw [hb0] at e
      have : h * R = 0 := by rw [← e]; simp
      rcases Int.mul_eq_zero.mp this with q | q
      · exact absurd q h0
      · exact q.symm
    · rw [if_neg hb0, if_pos (by omega), ha, show 3 - 1 = 2 from rfl, show 3 - 2 = 1 from rfl, er, Int.one_mul]
  rw [← e']
  refine RowRun.stop hb (by omega) (fun _ _ => ?_) fun _ => sm1
  rw [ha, show 3 - 1 = 2 from rfl, show 3 - 2 = 1 from rfl, er, p1_]
  exact ⟨sb, sh, h0, sh, sm1, sR⟩
theorem RowRun.end4 {a b : List Int} {g h R : Int} (ha : a.length = 4) (hb : b.length ≤ 1) (h0 : h ≠ 0) (e : b.getD 0 0 ^ 3 = h ^ 2 * R) (sb : Sm (b.getD 0 0)) (sh : Sm h) (sh2 : Sm (h ^ 2)) (sR : Sm R) : RowRun a b 1 g h R := by
  have er : (b.getD 0 0 ^ 3).fdiv (h ^ 2) = R := by rw [e, Int.mul_fdiv_cancel_left _ (sq_ne h0)]
  have e' : rowEnd a b 1 h = R := by
    unfold rowEnd
    by_cases hb0 : b = []
    · rw [if_pos hb0]
      rw [hb0] at e
      have : h ^ 2 * R = 0 := by rw [← e]; simp
      rcases Int.mul_eq_zero.mp this with q | q
      · exact absurd q (sq_ne h0)
      · exact q.symm
    · rw [if_neg hb0, if_pos (by omega), ha, show 4 - 1 = 3 from rfl, show 4 - 2 = 2 from rfl, er, Int.one_mul]
  rw [← e']
  refine RowRun.stop hb (by omega) (fun _ _ => ?_) fun _ => sm1
  rw [ha, show 4 - 1 = 3 from rfl, show 4 - 2 = 2 from rfl, er]
  exact ⟨sb, sh, sq_ne h0, sh2, sm1, sR⟩
end Mine
end

section
set_option maxHeartbeats 8000000
namespace Mine
theorem tb5 {n : Nat} {c a b d e f : Int} (hc : Bd 2 c) (ha : Bd n a) (hb : Bd n b) (hd : Bd n d) (he : Bd n e) (hf : Bd n f) : Bd (2 + n + n + n + n + n) (c * a * b * d * e * f) := ((((hc.mul ha).mul hb).mul hd).mul he).mul hf
theorem adB {k l : Nat} {a b : Int} (ha : Bd (k + l) a) (hb : Bd k b) : Bd (k + (l + 1)) (a + b) := (ha.add (hb.le (by omega)))
theorem suB {k l : Nat} {a b : Int} (ha : Bd (k + l) a) (hb : Bd k b) : Bd (k + (l + 1)) (a - b) := (ha.sub (hb.le (by omega)))
theorem R23_bd {n : Nat} {p0 p1 p2 q0 q1 q2 q3 : Int} (h0 : Bd n p0) (h1 : Bd n p1) (h2 : Bd n p2) (k0 : Bd n q0) (k1 : Bd n q1) (k2 : Bd n q2) (k3 : Bd n q3) : Bd (2 + n + n + n + n + n + 12) (R23 p0 p1 p2 q0 q1 q2 q3) := by
  have c1 : Bd 2 1 := (by decide : 1 ≤ 2 ^ 2)
  have c2 : Bd 2 2 := (by decide : 2 ≤ 2 ^ 2)
  have c3 : Bd 2 3 := (by decide : 3 ≤ 2 ^ 2)
  unfold R23
  exact adB (l := 11) (suB (l := 10) (adB (l := 9) (suB (l := 8) (adB (l := 7) (suB (l := 6) (suB (l := 5) (adB (l := 4) (adB (l := 3) (adB (l := 2) (suB (l := 1) (suB (l := 0) (tb5 c1 h0 h0 h0 k3 k3) (tb5 c1 h0 h0 h1 k2 k3)) (tb5 c2 h0 h0 h2 k1 k3)) (tb5 c1 h0 h0 h2 k2 k2)) (tb5 c1 h0 h1 h1 k1 k3)) (tb5 c3 h0 h1 h2 k0 k3)) (tb5 c1 h0 h1 h2 k1 k2)) (tb5 c2 h0 h2 h2 k0 k2)) (tb5 c1 h0 h2 h2 k1 k1)) (tb5 c1 h1 h1 h1 k0 k3)) (tb5 c1 h1 h1 h2 k0 k2)) (tb5 c1 h1 h2 h2 k0 k1)) (tb5 c1 h2 h2 h2 k0 k0)
theorem bd_of_mul {n : Nat} {k r : Int} (hk : k ≠ 0) (h : Bd n (k * r)) : Bd n r := by
  unfold Bd at *
  rw [Int.natAbs_mul] at h
  exact Nat.le_trans (Nat.le_mul_of_pos_left _ (Int.natAbs_pos.mpr hk)) h
theorem R23_c1 (c0 c1 q0 q1 q2 q3 : Int) : R23 c0 c1 0 q0 q1 q2 q3 = -q3 * (c1 ^ 3 * q0 - c1 ^ 2 * c0 * q1 + c1 * c0 ^ 2 * q2 - c0 ^ 3 * q3) := by
  unfold R23; grind
theorem x1 {c0 q3 R : Int} (h3 : q3 ≠ 0) (h : c0 ^ 3 * q3 ^ 2 = q3 ^ 4 * R) : c0 ^ 3 = q3 ^ 2 * R := cancel (sq_ne h3) (by grind)
theorem x2 {e q3 R : Int} (h3 : q3 ≠ 0) (h : -q3 * e = q3 ^ 4 * R) : e = q3 * q3 ^ 2 * -R := cancel h3 (by grind)
theorem x3 {q3 a b c c2 D1 D0 R R' : Int} (h3 : q3 ≠ 0) (h : (q3 * q3 * D1) ^ 2 * a - q3 * q3 * D1 * (q3 * q3 * D0) * b + (q3 * q3 * D0) ^ 2 * c2 = c2 ^ 2 * R') (h' : R' = q3 ^ 4 * R) : D1 ^ 2 * a - D1 * D0 * b + D0 ^ 2 * c2 = c2 * c2 * R :=
  cancel (sq_ne h3) (cancel (sq_ne h3) (by grind))
theorem x4 {c2 D0 R a b : Int} (h : c2 ≠ 0) (e : (0 : Int) ^ 2 * a - 0 * D0 * b + D0 ^ 2 * c2 = c2 * c2 * R) : D0 ^ 2 = c2 * R := cancel h (by grind)
theorem mul_ne {a b : Int} (ha : a ≠ 0) (hb : b ≠ 0) : a * b ≠ 0 := Int.mul_ne_zero ha hb
theorem cancelDiv {k x r : Int} (hk : k ≠ 0) (h : x = k * r) : x.fdiv k = r := by rw [h, Int.mul_fdiv_cancel_left _ hk]
/-- the row of a quartic and a cubic ends in their resultant -/
theorem run43 {p q : List Int} (hp : p.length = 5) (hq : q.length = 4) (tp : Tm p) (tq : Tm q) (np : Nb 12 p) (nq : Nb 15 q) : RowRun p q 1 1 1 (r43 p q) ∧ Bd 300 (r43 p q) := by
  obtain ⟨lc, tc, hr, ⟨e1, e0, he1, he0⟩, hnb⟩ := ps54 hp hq tp tq
  have nc : Nb 44 (pseudoL p q).2 := hnb 12 15 np nq
  have h3 := lead_ne hq tq
  have hlq := lead_of hq
  have b3 : Bd 15 (q.getD 3 0) := nq.get 3
  have bR : Bd 300 (r43 p q) := by
    refine bd_of_mul (k := q.getD 3 0 ^ 4) (by have := mul_ne (sq_ne h3) (sq_ne h3); rwa [← Int.pow_add] at this) ?_
    rw [← hr]
    have nq' : Nb 44 q := nq.le (by decide)
    exact Bd.le (R23_bd (nc.get 0) (nc.get 1) (nc.get 2) (nq'.get 0) (nq'.get 1) (nq'.get 2) (nq'.get 3)) (by decide)
  have sR : Sm (r43 p q) := bR.sm (by decide)
  refine ⟨RowRun.step1 (by omega) (by omega) (psok (by omega) (ne_of_len hq (by omega)) (by omega) np nq (by decide)) sm1 sm1 (by decide) (by simpa using sm1) (by rw [hlq]; exact b3.sm (by decide)) ?_, bR⟩
  rw [Int.one_mul, divL_one, hlq]
  generalize hcd : (pseudoL p q).2 = c at *
  have s3 : Sm (q.getD 3 0) := b3.sm (by decide)
  have s33 : Sm (q.getD 3 0 ^ 2) := (b3.pow 2).sm (by decide)
  have hc4 : c.length = 3 ∨ c.length = 2 ∨ c.length ≤ 1 := by omega
  rcases hc4 with hc | hc | hc
  · -- three coefficients
    obtain ⟨ld, td, hd1, hd0, hnd⟩ := ps43 hq hc tq tc
    have nd : Nb 105 (pseudoL q c).2 := Nb.le (hnd 15 44 nq nc) (by decide)
    have hc2 := lead_ne hc tc
    have hlc := lead_of hc
    have b2 : Bd 44 (c.getD 2 0) := nc.get 2
    have k33 : q.getD 3 0 * q.getD 3 0 ≠ 0 := mul_ne h3 h3
    refine RowRun.step1 (by omega) (by omega) (psok (by omega) (ne_of_len hc (by omega)) (by omega) nq nc (by decide)) s3 s3 k33 ((b3.mul b3).sm (by decide)) (by rw [hlc]; exact b2.sm (by decide)) ?_
    rw [hlc]
    generalize (pseudoL q c).2 = d at *
    have hdv : ∀ i, q.getD 3 0 * q.getD 3 0 ∣ d.getD i 0 := by
      intro i
      have hi : i = 0 ∨ i = 1 ∨ 2 ≤ i := by omega
      rcases hi with rfl | rfl | hi
      · rw [hd0, he0]; exact Int.dvd_mul_right ..
      · rw [hd1, he1]; exact Int.dvd_mul_right ..
      · rw [getD_ge (xs := d) (by omega)]; exact Int.dvd_zero _
    have td' := td.div k33 hdv
    have m1 := divL_mul k33 (hdv 1)
    have m0 := divL_mul k33 (hdv 0)
    have ld' := divL_length d (q.getD 3 0 * q.getD 3 0)
    have nd' : Nb 105 (divL d (q.getD 3 0 * q.getD 3 0)) := nd.div
    generalize divL d (q.getD 3 0 * q.getD 3 0) = d' at *
    have hk := k21 (c.getD 0 0) (c.getD 1 0) (c.getD 2 0) (q.getD 0 0) (q.getD 1 0) (q.getD 2 0) (q.getD 3 0)
    have hd1' : d1 (c.getD 0 0) (c.getD 1 0) (c.getD 2 0) (q.getD 0 0) (q.getD 1 0) (q.getD 2 0) (q.getD 3 0) = q.getD 3 0 * q.getD 3 0 * d'.getD 1 0 := by rw [m1, hd1]; rfl
    have hd0' : d0 (c.getD 0 0) (c.getD 1 0) (c.getD 2 0) (q.getD 0 0) (q.getD 1 0) (q.getD 2 0) (q.getD 3 0) = q.getD 3 0 * q.getD 3 0 * d'.getD 0 0 := by rw [m0, hd0]; rfl
    rw [hd1', hd0'] at hk
    have hx := x3 (c := 0) h3 hk hr
    have hd2 : d'.length = 2 ∨ d'.length ≤ 1 := by omega
    rcases hd2 with hd | hd
    · obtain ⟨le, te, he, hne⟩ := ps32 hc hd tc td'
      have ne : Nb 300 (pseudoL c d').2 := Nb.le (hne 44 105 nc nd') (by decide)
      have hl' := lead_of hd
      have k22 : c.getD 2 0 * c.getD 2 0 ≠ 0 := mul_ne hc2 hc2
      refine RowRun.step1 (by omega) (by omega) (psok (by omega) (ne_of_len hd (by omega)) (by omega) nc nd' (by decide)) (b2.sm (by decide)) (b2.sm (by decide)) k22 ((b2.mul b2).sm (by decide)) (by rw [hl']; exact Bd.sm (nd'.get 1) (by omega)) ?_
      have hval : (divL (pseudoL c d').2 (c.getD 2 0 * c.getD 2 0)).getD 0 0 = r43 p q := by
        rw [divL_getD]
        refine cancelDiv k22 ?_
        rw [he, ← hx]
      have := RowRun.end2 (g := leadL d') (h := leadL d') (sign := 1) hd (b := divL (pseudoL c d').2 (c.getD 2 0 * c.getD 2 0)) (by rw [divL_length]; exact le) (by rw [hval]; exact sR) (by rw [hl']; exact Bd.sm (nd'.get 1) (by omega)) sm1
      rw [hval, Int.one_mul] at this
      exact this
    · have hz : d'.getD 1 0 = 0 := getD_ge hd
      rw [hz] at hx
      exact RowRun.end3 hc hd hc2 (x4 hc2 hx) (Bd.sm (nd'.get 0) (by omega)) (b2.sm (by decide)) sR
  · -- two
    obtain ⟨le, te, he, hne⟩ := ps42 hq hc tq tc
    have hc1 := lead_ne hc tc
    have hlc := lead_of hc
    have b1 : Bd 44 (c.getD 1 0) := nc.get 1
    have hz : c.getD 2 0 = 0 := getD_ge (by omega)
    have hr' := hr
    unfold r23 at hr'
    rw [hz, R23_c1, ← he] at hr'
    have hx := x2 h3 hr'
    have k3 : q.getD 3 0 * q.getD 3 0 ^ 2 ≠ 0 := mul_ne h3 (sq_ne h3)
    have e2 : q.length - c.length = 2 := by omega
    refine RowRun.step (by omega) (by omega) (psok (by omega) (ne_of_len hc (by omega)) (by omega) nq nc (by decide)) s3 s3 ?_ ?_ ?_ (fun _ => ?_) (by rw [hlc]; exact b1.sm (by decide)) ?_
    · rw [e2]; exact k3
    · rw [e2]; exact s33
    · rw [e2]; exact (b3.mul (b3.pow 2)).sm (by decide)
    · rw [e2, show 2 - 1 = 1 from rfl, p1_]; exact ⟨h3, s3⟩
    · rw [e2, if_pos (by omega)]
      have hval : (divL (pseudoL q c).2 (q.getD 3 0 * q.getD 3 0 ^ 2)).getD 0 0 = -r43 p q := by
        rw [divL_getD]
        exact cancelDiv k3 hx
      have sn : Sm (-r43 p q) := bR.neg.sm (by decide)
      rw [if_pos (by decide), show 2 - 1 = 1 from rfl]
      have := RowRun.end2 (g := leadL c) (h := (leadL c ^ 2).fdiv (q.getD 3 0 ^ 1)) (sign := -1) hc (b := divL (pseudoL q c).2 (q.getD 3 0 * q.getD 3 0 ^ 2)) (by rw [divL_length]; exact le) (by rw [hval]; exact sn) (by rw [hlc]; exact (Bd.fdiv (b1.pow 2)).sm (by decide)) (Sm.small (by decide))
      rw [hval, Int.neg_mul_neg, Int.one_mul] at this
      exact this
  · -- a constant
    have hz1 : c.getD 1 0 = 0 := getD_ge hc
    have hz2 : c.getD 2 0 = 0 := getD_ge (by omega)
    have hr' := hr
    unfold r23 at hr'
    rw [hz1, hz2, R23_c0] at hr'
    exact RowRun.end4 hq hc h3 (x1 h3 hr') (Bd.sm (nc.get 0) (by omega)) s3 s33 sR
end Mine
end

section
set_option maxHeartbeats 8000000
namespace Mine
theorem R12_bd {n : Nat} {p0 p1 q0 q1 q2 : Int} (h0 : Bd n p0) (h1 : Bd n p1) (k0 : Bd n q0) (k1 : Bd n q1) (k2 : Bd n q2) : Bd (2 + n + n + n + 2) (R12 p0 p1 q0 q1 q2) := by
  have b1 : Bd 2 1 := (by decide : 1 ≤ 2 ^ 2)
  unfold R12
  exact adB (l := 1) (suB (l := 0) (((b1.mul h0).mul h0).mul k2) (((b1.mul h0).mul h1).mul k1)) (((b1.mul h1).mul h1).mul k0)
theorem x5 {c0 q2 R : Int} (h : q2 ≠ 0) (e : c0 ^ 2 * q2 = q2 ^ 2 * R) : c0 ^ 2 = q2 * R := cancel h (by grind)
theorem x6 {c0 c1 q0 q1 q2 R : Int} (e : R12 c0 c1 q0 q1 q2 = q2 ^ 2 * R) : c1 ^ 2 * q0 - c1 * c0 * q1 + c0 ^ 2 * q2 = q2 * q2 * R := by unfold R12 at e; grind
/-- the row of a cubic and a quadratic ends in their resultant -/
theorem run32 {p q : List Int} (hp : p.length = 4) (hq : q.length = 3) (tp : Tm p) (tq : Tm q) (np : Nb 12 p) (nq : Nb 15 q) : RowRun p q 1 1 1 (r32 p q) ∧ Bd 300 (r32 p q) := by
  obtain ⟨lc, tc, hr, hnb⟩ := ps43r hp hq tp tq
  have nc : Nb 44 (pseudoL p q).2 := hnb 12 15 np nq
  have h3 := lead_ne hq tq
  have hlq := lead_of hq
  have b3 : Bd 15 (q.getD 2 0) := nq.get 2
  have bR : Bd 300 (r32 p q) := by
    refine bd_of_mul (sq_ne h3) ?_
    rw [← hr]
    have nq' : Nb 44 q := nq.le (by decide)
    exact Bd.le (R12_bd (nc.get 0) (nc.get 1) (nq'.get 0) (nq'.get 1) (nq'.get 2)) (by decide)
  have sR : Sm (r32 p q) := bR.sm (by decide)
  refine ⟨RowRun.step1 (by omega) (by omega) (psok (by omega) (ne_of_len hq (by omega)) (by omega) np nq (by decide)) sm1 sm1 (by decide) (by simpa using sm1) (by rw [hlq]; exact b3.sm (by decide)) ?_, bR⟩
  rw [Int.one_mul, divL_one, hlq]
  generalize hcd : (pseudoL p q).2 = c at *
  have s3 : Sm (q.getD 2 0) := b3.sm (by decide)
  have hc4 : c.length = 2 ∨ c.length ≤ 1 := by omega
  rcases hc4 with hc | hc
  · obtain ⟨le, te, he, hne⟩ := ps32 hq hc tq tc
    have hlc := lead_of hc
    have b1 : Bd 44 (c.getD 1 0) := nc.get 1
    have k22 : q.getD 2 0 * q.getD 2 0 ≠ 0 := mul_ne h3 h3
    refine RowRun.step1 (by omega) (by omega) (psok (by omega) (ne_of_len hc (by omega)) (by omega) nq nc (by decide)) s3 s3 k22 ((b3.mul b3).sm (by decide)) (by rw [hlc]; exact b1.sm (by decide)) ?_
    have hval : (divL (pseudoL q c).2 (q.getD 2 0 * q.getD 2 0)).getD 0 0 = r32 p q := by
      rw [divL_getD]
      refine cancelDiv k22 ?_
      rw [he]
      exact x6 hr
    have := RowRun.end2 (g := leadL c) (h := leadL c) (sign := 1) hc (b := divL (pseudoL q c).2 (q.getD 2 0 * q.getD 2 0)) (by rw [divL_length]; exact le) (by rw [hval]; exact sR) (by rw [hlc]; exact b1.sm (by decide)) sm1
    rw [hval, Int.one_mul] at this
    exact this
  · have hz : c.getD 1 0 = 0 := getD_ge hc
    have hr' := hr
    rw [hz, R12_sq] at hr'
    exact RowRun.end3 hq hc h3 (x5 h3 hr') (Bd.sm (nc.get 0) (by omega)) s3 sR
/-- the parts of a form of four or five coefficients and its slope -/
theorem parts {f : List Int} {n : Nat} (hl : f.length = n + 2) (t : Tm f) (nb : Nb 12 f) (hn : n ≤ 3) : gcdL f ≠ 0 ∧ Bd 12 (gcdL f) ∧ Tm (divL f (gcdL f)) ∧ (∀ i, gcdL f * (divL f (gcdL f)).getD i 0 = f.getD i 0) ∧ (divL f (gcdL f)).length = n + 2 ∧ Nb 12 (divL f (gcdL f)) := by
  have hne := ne_of_len hl (by omega)
  have g0 := gcdL_ne' hne t
  exact ⟨g0, gcdL_nb hne t nb, t.div g0 (gcdL_dvd f), fun i => divL_mul g0 (gcdL_dvd f i), by rw [divL_length]; exact hl, nb.div⟩
theorem partsD {f : List Int} {n : Nat} (hl : f.length = n + 2) (t : Tm f) (nb : Nb 12 f) (hn : n ≤ 3) : gcdL (deriveL f) ≠ 0 ∧ Bd 15 (gcdL (deriveL f)) ∧ Tm (divL (deriveL f) (gcdL (deriveL f))) ∧ (∀ i, gcdL (deriveL f) * (divL (deriveL f) (gcdL (deriveL f))).getD i 0 = (deriveL f).getD i 0) ∧ (divL (deriveL f) (gcdL (deriveL f))).length = n + 1 ∧ Nb 15 (divL (deriveL f) (gcdL (deriveL f))) := by
  have hld : (deriveL f).length = n + 1 := by rw [deriveL_length]; omega
  have hne := ne_of_len hld (by omega)
  have td := t.derive
  have nd : Nb 15 (deriveL f) := nb.derive (l := 3) (by omega)
  have g0 := gcdL_ne' hne td
  exact ⟨g0, gcdL_nb hne td nd, td.div g0 (gcdL_dvd _), fun i => divL_mul g0 (gcdL_dvd _ i), by rw [divL_length]; exact hld, nd.div⟩
end Mine
end

section
set_option maxHeartbeats 8000000
namespace Mine
noncomputable def disc4 (e d c b a : Int) : Int := 256*a^3*e^3 - 192*a^2*b*d*e^2 - 128*a^2*c^2*e^2 + 144*a^2*c*d^2*e - 27*a^2*d^4 + 144*a*b^2*c*e^2 - 6*a*b^2*d^2*e - 80*a*b*c^2*d*e + 18*a*b*c*d^3 + 16*a*c^4*e - 4*a*c^3*d^2 - 27*b^4*e^2 + 18*b^3*c*d*e - 4*b^3*d^3 - 4*b^2*c^3*e + b^2*c^2*d^2
noncomputable def disc3 (e d c b : Int) : Int := c^2*d^2 - 4*b*d^3 - 4*c^3*e - 27*b^2*e^2 + 18*b*c*d*e
theorem R43_d4 (e d c b a : Int) : R43 e d c b a (d * 1) (c * 2) (b * 3) (a * 4) = a * disc4 e d c b a := by unfold R43 disc4; grind
theorem R32_d3 (e d c b : Int) : R32 e d c b (d * 1) (c * 2) (b * 3) = b * -disc3 e d c b := by unfold R32 disc3; grind
theorem disc4_IJ (e d c b a : Int) : 27 * disc4 e d c b a = 4 * numI e d c b a ^ 3 - numJ e d c b a ^ 2 := by unfold disc4 numI numJ; grind
theorem disc3_IJ (e d c b : Int) : 27 * (disc3 e d c b * b * b) = 4 * numI e d c b 0 ^ 3 - numJ e d c b 0 ^ 2 := by unfold disc3 numI numJ; grind
theorem low_IJ (e d c : Int) : 27 * 0 = 4 * numI e d c 0 0 ^ 3 - numJ e d c 0 0 ^ 2 := by unfold numI numJ; grind
theorem disc_five {f : List Int} (hl : f.length = 5) (t : Tm f) (nb : Nb 12 f) : Fn 8 207 [.b (.zs f)] (.b (.int (ofPad disc4 f))) ∧ Bd 400 (ofPad disc4 f) := by
  obtain ⟨g0, bg, tp, hp, lp, np⟩ := parts (n := 3) hl t nb (by omega)
  obtain ⟨g1, bg1, tq, hq, lq, nq⟩ := partsD (n := 3) hl t nb (by omega)
  obtain ⟨hrun, bR⟩ := run43 lp lq tp tq np nq
  have hld := deriveL_length f
  have ha := lead_ne hl t
  have hla := lead_of hl
  have ba : Bd 12 (f.getD 4 0) := nb.get 4
  have hval : sharedR f (deriveL f) * r43 (divL f (gcdL f)) (divL (deriveL f) (gcdL (deriveL f))) = f.getD 4 0 * ofPad disc4 f := by
    have h := R43_hom (gcdL f) (gcdL (deriveL f)) ((divL f (gcdL f)).getD 0 0) ((divL f (gcdL f)).getD 1 0) ((divL f (gcdL f)).getD 2 0) ((divL f (gcdL f)).getD 3 0) ((divL f (gcdL f)).getD 4 0) ((divL (deriveL f) (gcdL (deriveL f))).getD 0 0) ((divL (deriveL f) (gcdL (deriveL f))).getD 1 0) ((divL (deriveL f) (gcdL (deriveL f))).getD 2 0) ((divL (deriveL f) (gcdL (deriveL f))).getD 3 0)
    rw [hp, hp, hp, hp, hp, hq, hq, hq, hq] at h
    unfold sharedR r43
    rw [hld, hl, ← h]
    simp only [deriveL_getD]
    exact R43_d4 _ _ _ _ _
  have bS : Bd 96 (sharedR f (deriveL f)) := by
    unfold sharedR
    rw [hld, hl]
    exact (bg.pow 3).mul (bg1.pow 4)
  have bD : Bd 400 (ofPad disc4 f) := by
    refine bd_of_mul ha ?_
    rw [← hval]
    exact (bS.mul bR).le (by decide)
  have e : discL f (r43 (divL f (gcdL f)) (divL (deriveL f) (gcdL (deriveL f)))) = ofPad disc4 f := by
    unfold discL
    rw [hl, if_neg (by decide), hval, hla, Int.mul_fdiv_cancel_left _ ha]
  refine ⟨?_, bD⟩
  rw [← e]
  refine c_discriminant (by omega) (by omega) (SmL.ofNb nb (by omega)) (by rw [hla]; exact ha) (by rw [hla]; exact ba.sm (by decide)) ?_
  refine c_resultant (ne_of_len hl (by omega)) (fun q => by rw [q] at hld; simp at hld; omega) (by omega) (by omega) g0 g1 (bg.sm (by decide)) (bg1.sm (by decide)) ?_ ?_ (bS.sm (by decide)) (bR.sm (by decide)) hrun
  · rw [hld, hl]; exact (bg.pow 3).sm (by decide)
  · rw [hl]; exact (bg1.pow 4).sm (by decide)
theorem disc_four {f : List Int} (hl : f.length = 4) (t : Tm f) (nb : Nb 12 f) : Fn 8 207 [.b (.zs f)] (.b (.int (disc3 (f.getD 0 0) (f.getD 1 0) (f.getD 2 0) (f.getD 3 0)))) ∧ Bd 400 (disc3 (f.getD 0 0) (f.getD 1 0) (f.getD 2 0) (f.getD 3 0)) := by
  obtain ⟨g0, bg, tp, hp, lp, np⟩ := parts (n := 2) hl t nb (by omega)
  obtain ⟨g1, bg1, tq, hq, lq, nq⟩ := partsD (n := 2) hl t nb (by omega)
  obtain ⟨hrun, bR⟩ := run32 lp lq tp tq np nq
  have hld := deriveL_length f
  have ha := lead_ne hl t
  have hla := lead_of hl
  have ba : Bd 12 (f.getD 3 0) := nb.get 3
  have hval : sharedR f (deriveL f) * r32 (divL f (gcdL f)) (divL (deriveL f) (gcdL (deriveL f))) = f.getD 3 0 * -disc3 (f.getD 0 0) (f.getD 1 0) (f.getD 2 0) (f.getD 3 0) := by
    have h := R32_hom (gcdL f) (gcdL (deriveL f)) ((divL f (gcdL f)).getD 0 0) ((divL f (gcdL f)).getD 1 0) ((divL f (gcdL f)).getD 2 0) ((divL f (gcdL f)).getD 3 0) ((divL (deriveL f) (gcdL (deriveL f))).getD 0 0) ((divL (deriveL f) (gcdL (deriveL f))).getD 1 0) ((divL (deriveL f) (gcdL (deriveL f))).getD 2 0)
    rw [hp, hp, hp, hp, hq, hq, hq] at h
    unfold sharedR r32
    rw [hld, hl, ← h]
    simp only [deriveL_getD]
    exact R32_d3 _ _ _ _
  have bS : Bd 96 (sharedR f (deriveL f)) := by
    unfold sharedR
    rw [hld, hl]
    exact ((bg.pow 2).mul (bg1.pow 3)).le (by decide)
  have bD : Bd 400 (disc3 (f.getD 0 0) (f.getD 1 0) (f.getD 2 0) (f.getD 3 0)) := by
    have : Bd 400 (-disc3 (f.getD 0 0) (f.getD 1 0) (f.getD 2 0) (f.getD 3 0)) := by
      refine bd_of_mul ha ?_
      rw [← hval]
      exact (bS.mul bR).le (by decide)
    have := this.neg
    rwa [Int.neg_neg] at this
  have e : discL f (r32 (divL f (gcdL f)) (divL (deriveL f) (gcdL (deriveL f)))) = disc3 (f.getD 0 0) (f.getD 1 0) (f.getD 2 0) (f.getD 3 0) := by
    unfold discL
    rw [hl, if_pos (by decide), hval, hla, Int.mul_fdiv_cancel_left _ ha, Int.neg_neg]
  refine ⟨?_, bD⟩
  rw [← e]
  refine c_discriminant (by omega) (by omega) (SmL.ofNb nb (by omega)) (by rw [hla]; exact ha) (by rw [hla]; exact ba.sm (by decide)) ?_
  refine c_resultant (ne_of_len hl (by omega)) (fun q => by rw [q] at hld; simp at hld; omega) (by omega) (by omega) g0 g1 (bg.sm (by decide)) (bg1.sm (by decide)) ?_ ?_ (bS.sm (by decide)) (bR.sm (by decide)) hrun
  · rw [hld, hl]; exact (bg.pow 2).sm (by decide)
  · rw [hl]; exact (bg1.pow 3).sm (by decide)
end Mine
end

section
set_option maxHeartbeats 8000000
namespace Mine
/-- g divides a and b, up to a factor, and is made of them, up to a factor; or a constant is made of them -/
noncomputable def Cd (a b g : List Int) : Prop :=
  (g.length ≤ 1 ∧ ∃ N : Int, N ≠ 0 ∧ ∀ x, ∃ A B : Int, N = A * ev a x + B * ev b x) ∨
  (1 < g.length ∧ Tm g ∧ (∃ K : Int, K ≠ 0 ∧ ∀ x, ev g x ∣ K * ev a x ∧ ev g x ∣ K * ev b x) ∧ ∃ K : Int, K ≠ 0 ∧ ∀ x, ∃ A B : Int, K * ev g x = A * ev a x + B * ev b x)
theorem cd1 {k N A B L a u b r r' : Int} (h1 : N = A * b + B * r') (h2 : r = k * r') (h3 : L * a = u * b + r) : k * N = B * L * a + (k * A - B * u) * b := by grind
theorem cd2 {k K L a u b r r' : Int} (h2 : r = k * r') (h3 : L * a = u * b + r) : K * L * a = u * (K * b) + k * (K * r') := by grind
theorem Cd.step {a b r r' u g : List Int} {L k : Int} (hL : L ≠ 0) (hk : k ≠ 0) (h : ∀ x, L * ev a x = ev u x * ev b x + ev r x) (hr : ∀ x, k * ev r' x = ev r x) (c : Cd b r' g) : Cd a b g := by
  rcases c with ⟨hl, N, hN, hc⟩ | ⟨hl, tg, ⟨K, hK, hd⟩, ⟨K', hK', hc⟩⟩
  · refine .inl ⟨hl, k * N, mul_ne hk hN, fun x => ?_⟩
    obtain ⟨A, B, e⟩ := hc x
    exact ⟨_, _, cd1 e (hr x).symm (h x)⟩
  · refine .inr ⟨hl, tg, ⟨K * L, mul_ne hK hL, fun x => ⟨?_, ?_⟩⟩, ⟨k * K', mul_ne hk hK', fun x => ?_⟩⟩
    · rw [cd2 (hr x).symm (h x)]
      exact Int.dvd_add (Int.dvd_trans (hd x).1 (Int.dvd_mul_left ..)) (Int.dvd_trans (hd x).2 (Int.dvd_mul_left ..))
    · rw [Int.mul_right_comm]
      exact Int.dvd_trans (hd x).1 (Int.dvd_mul_right ..)
    · obtain ⟨A, B, e⟩ := hc x
      have q := cd1 e (hr x).symm (h x)
      rw [← Int.mul_assoc] at q
      exact ⟨_, _, q⟩
/-- the division leaves nothing -/
theorem Cd.self {a b u r : List Int} {L : Int} (hL : L ≠ 0) (h : ∀ x, L * ev a x = ev u x * ev b x + ev r x) (hr : r = []) (hb : 1 < b.length) (tb : Tm b) : Cd a b b := by
  subst hr
  refine .inr ⟨hb, tb, ⟨L, hL, fun x => ⟨?_, Int.dvd_mul_left ..⟩⟩, ⟨1, by decide, fun x => ⟨0, 1, by omega⟩⟩⟩
  rw [h x, ev_nil, Int.add_zero]
  exact Int.dvd_mul_left ..
/-- the division leaves a constant -/
theorem Cd.const {a b u r g : List Int} {L : Int} (h : ∀ x, L * ev a x = ev u x * ev b x + ev r x) (hr : r.length = 1) (tr : Tm r) (hg : g.length ≤ 1) : Cd a b g := by
  refine .inl ⟨hg, r.getD 0 0, lead_ne hr tr, fun x => ⟨L, -ev u x, ?_⟩⟩
  have e := h x
  rw [ev1 (xs := r) (by omega)] at e
  rw [Int.neg_mul]
  omega
theorem Cd.one {a b : List Int} (hb : b.length = 1) (tb : Tm b) : Cd a b b := by
  refine .inl ⟨by omega, b.getD 0 0, lead_ne hb tb, fun x => ⟨0, 1, ?_⟩⟩
  rw [ev1 (xs := b) (by omega)]; omega

noncomputable def GO (n : Nat) (a b : List Int) (f h : Int) (k : Nat) : Prop := ∃ rows g, SubRun a b f h rows ∧ rows.length ≤ n ∧ (a :: b :: rows).getLast? = some g ∧ Cd a b g ∧ Nb k g ∧ g.length ≤ b.length
theorem psok' {a b : List Int} {ka kb m : Nat} (la : a.length ≤ 10) (hb : b ≠ []) (lb : b.length ≤ 10) (na : Nb ka a) (nb : Nb kb b) (hm : manyL a b ≤ m) (hk : ka + (kb + 1) * (m + 1) ≤ 3000) : PsOk a b := by
  refine ⟨by omega, by omega, hb, ka, kb, na, nb, ?_⟩
  have h2 : (kb + 1) * (manyL a b + 1) ≤ (kb + 1) * (m + 1) := Nat.mul_le_mul_left _ (by omega)
  omega
theorem Bd.pw {k m : Nat} {f : Int} (h : Bd k f) (n : Nat) (hn : n ≤ m) : Bd (k * m) (f ^ n) := (h.pow n).le (Nat.mul_le_mul_left _ hn)
theorem pow_ne {f : Int} (h : f ≠ 0) (n : Nat) : f ^ n ≠ 0 := by
  induction n with
  | zero => rw [Int.pow_zero]; decide
  | succ n ih => rw [Int.pow_succ]; exact mul_ne ih h
/-- a step of the row upon its second list -/
theorem sub_step {a b : List Int} {f h : Int} {rows : List (List Int)} {ka kb kf m : Nat} (hb : 1 < b.length) (hab : b.length ≤ a.length) (la : a.length ≤ 5) (na : Nb ka a) (nb : Nb kb b) (hm : manyL a b ≤ m) (hk : ka + (kb + 1) * (m + 1) ≤ 3000)
    (hr : (pseudoL a b).2 ≠ []) (hf : f ≠ 0) (hh : h ≠ 0) (bf : Bd kf f) (bh : Bd kf h) (hkf : kf + kf * 3 ≤ 3000) (hrl : rows.length ≤ 9)
    (run : SubRun b (divL (pseudoL a b).2 (f * h ^ (a.length - b.length))) (leadL b) (nextH (leadL b) (a.length - b.length) h) rows) : SubRun a b f h (divL (pseudoL a b).2 (f * h ^ (a.length - b.length)) :: rows) := by
  have hne : b ≠ [] := fun q => by rw [q] at hb; simp at hb
  have hkb : kb + 1 ≤ (kb + 1) * (m + 1) := Nat.le_mul_of_pos_right _ (by omega)
  have p1 := bh.pw (m := 3) (a.length - b.length) (by omega)
  have p2 := bh.pw (m := 3) (a.length - b.length - 1) (by omega)
  refine SubRun.step hb hab (psok' (by omega) hne (by omega) na nb hm hk) hr (bf.sm (by omega)) (bh.sm (by omega)) (mul_ne hf (pow_ne hh _)) (p1.sm (by omega)) ((bf.mul p1).sm (by omega)) (pow_ne hh _) (p2.sm (by omega)) (Sm.ofPow (Nat.le_trans (leadL_natAbs b) nb) (by omega)) (by omega) run
theorem GO.one {a b : List Int} {f h : Int} {k : Nat} (hb : b.length = 1) (tb : Tm b) (nb : Nb k b) : GO 1 a b f h k := ⟨[], b, SubRun.stop (by omega), by simp, by simp, Cd.one hb tb, nb, by omega⟩
theorem len1 {r : List Int} (h0 : r ≠ []) (h : r.length ≤ 1) : r.length = 1 := by have := List.length_pos_iff.mpr h0; omega
theorem lead0 {b : List Int} (h : b ≠ []) (t : Tm b) : leadL b ≠ 0 := by rw [leadL_getD h]; exact t h
/-- nothing left, or a constant -/
theorem GO.low {a b : List Int} {f h : Int} {ka kb kf m K : Nat} (hb : 1 < b.length) (hab : b.length ≤ a.length) (la : a.length ≤ 5) (ta : Tm a) (tb : Tm b) (na : Nb ka a) (nb : Nb kb b) (hm : manyL a b ≤ m) (hk : ka + (kb + 1) * (m + 1) ≤ 3000)
    (hr : (pseudoL a b).2.length ≤ 1) (hf : f ≠ 0) (hh : h ≠ 0) (bf : Bd kf f) (bh : Bd kf h) (hkf : kf + kf * 3 ≤ 3000) (hK : kb ≤ K) (hK' : ka + (kb + 1) * m ≤ K) : GO 1 a b f h K := by
  have hne : b ≠ [] := fun q => by rw [q] at hb; simp at hb
  obtain ⟨u, hu, hx, ht, hlt, hnb⟩ := pseudo_spec hne ta
  have hL := pow_ne (lead0 hne tb) (manyL a b)
  by_cases hr0 : (pseudoL a b).2 = []
  · exact ⟨[], b, SubRun.last hb hab (psok' (by omega) hne (by omega) na nb hm hk) hr0, by simp, by simp, Cd.self hL hx hr0 hb tb, nb.le hK, Nat.le_refl _⟩
  · refine ⟨[divL (pseudoL a b).2 (f * h ^ (a.length - b.length))], divL (pseudoL a b).2 (f * h ^ (a.length - b.length)), sub_step (rows := []) hb hab la na nb hm hk hr0 hf hh bf bh hkf (by simp) (SubRun.stop (by rw [divL_length]; exact hr)), by simp, by simp, Cd.const hx (len1 hr0 hr) ht (by rw [divL_length]; exact hr), (hnb ka kb na nb).div.le (Nat.le_trans (Nat.add_le_add_left (Nat.mul_le_mul_left _ hm) _) hK'), by rw [divL_length]; omega⟩
/-- one division, and the rest of the row -/
theorem GO.more {a b : List Int} {f h : Int} {ka kb kf m K n : Nat} (hb : 1 < b.length) (hab : b.length ≤ a.length) (la : a.length ≤ 5) (ta : Tm a) (tb : Tm b) (na : Nb ka a) (nb : Nb kb b) (hm : manyL a b ≤ m) (hk : ka + (kb + 1) * (m + 1) ≤ 3000)
    (hr : (pseudoL a b).2 ≠ []) (hf : f ≠ 0) (hh : h ≠ 0) (bf : Bd kf f) (bh : Bd kf h) (hkf : kf + kf * 3 ≤ 3000) (hdv : ∀ i, f * h ^ (a.length - b.length) ∣ (pseudoL a b).2.getD i 0)
    (hn : n ≤ 9) (o : GO n b (divL (pseudoL a b).2 (f * h ^ (a.length - b.length))) (leadL b) (nextH (leadL b) (a.length - b.length) h) K) : GO (n + 1) a b f h K := by
  have hne : b ≠ [] := fun q => by rw [q] at hb; simp at hb
  obtain ⟨u, hu, hx, ht, hlt, hnb⟩ := pseudo_spec hne ta
  have hL := pow_ne (lead0 hne tb) (manyL a b)
  obtain ⟨rows, g, run, hl, hlast, cd, ng, lg⟩ := o
  refine ⟨_ :: rows, g, sub_step hb hab la na nb hm hk hr hf hh bf bh hkf (by omega) run, by simp; omega, ?_, Cd.step hL (mul_ne hf (pow_ne hh _)) hx (fun x => divL_ev (mul_ne hf (pow_ne hh _)) hdv x) cd, ng, ?_⟩
  · rw [List.getLast?_cons_cons]; exact hlast
  · rw [divL_length] at lg; omega
end Mine
end

section
set_option maxHeartbeats 8000000
namespace Mine
theorem GO.mono {n m : Nat} {a b : List Int} {f h : Int} {k : Nat} (o : GO n a b f h k) (hn : n ≤ m) : GO m a b f h k := let ⟨rows, g, h1, h2, h3⟩ := o; ⟨rows, g, h1, by omega, h3⟩
theorem nextH1 (front height : Int) : nextH front 1 height = front := by
  unfold nextH
  rw [if_neg (by decide), p1_, show 1 - 1 = 0 from rfl, Int.pow_zero, Int.fdiv_one]
theorem nextH0 (front height : Int) : nextH front 0 height = height := if_pos rfl
theorem one_pow' (n : Nat) : (1 : Int) * 1 ^ n = 1 := by rw [Int.one_pow]; rfl
theorem Bd.one {k : Nat} : Bd k 1 := Nat.one_le_two_pow
/-- a line at the end -/
theorem GO2 {a b : List Int} {f h : Int} {ka kb kf K : Nat} (ha : 2 ≤ a.length ∧ a.length ≤ 4) (hb : b.length = 2) (ta : Tm a) (tb : Tm b) (na : Nb ka a) (nb : Nb kb b) (hf : f ≠ 0) (hh : h ≠ 0) (bf : Bd kf f) (bh : Bd kf h)
    (hkf : kf + kf * 3 ≤ 3000) (hk : ka + (kb + 1) * 4 ≤ 3000) (hK : kb ≤ K) (hK' : ka + (kb + 1) * 3 ≤ K) : GO 1 a b f h K := by
  have hne := ne_of_len hb (by omega)
  have hl := pseudoL_length (a := a) hne
  exact GO.low (m := 3) (by omega) (by omega) (by omega) ta tb na nb (by unfold manyL; omega) hk (by omega) hf hh bf bh hkf hK hK'
/-- a quadratic as the second -/
theorem GO3 {a b : List Int} {ka kb K : Nat} (ha : a.length = 3 ∨ a.length = 4) (hb : b.length = 3) (ta : Tm a) (tb : Tm b) (na : Nb ka a) (nb : Nb kb b) (hkb : kb + kb * 3 ≤ 3000) (hk : ka + (kb + 1) * 3 ≤ 3000) (hk2 : kb + (ka + (kb + 1) * 2 + 1) * 4 ≤ 3000) (hK : kb + (ka + (kb + 1) * 2 + 1) * 3 ≤ K) : GO 2 a b 1 1 K := by
  have hne := ne_of_len hb (by omega)
  have hl := pseudoL_length (a := a) hne
  obtain ⟨u, hu, hx, ht, hlt, hnb⟩ := pseudo_spec hne ta
  have hm : manyL a b ≤ 2 := by unfold manyL; omega
  have nr : Nb (ka + (kb + 1) * 2) (pseudoL a b).2 := (hnb ka kb na nb).le (Nat.add_le_add_left (Nat.mul_le_mul_left _ hm) _)
  by_cases h1 : (pseudoL a b).2.length ≤ 1
  · exact (GO.low (m := 2) (by omega) (by omega) (by omega) ta tb na nb hm hk h1 (by decide) (by decide) (Bd.one (k := 0)) Bd.one (by decide) (by omega) (by omega)).mono (by omega)
  · have h2 : (pseudoL a b).2.length = 2 := by omega
    refine GO.more (m := 2) (by omega) (by omega) (by omega) ta tb na nb hm hk (ne_of_len h2 (by omega)) (by decide) (by decide) (Bd.one (k := 0)) Bd.one (by decide) (fun i => ?_) (by omega) ?_
    · rw [one_pow']; exact Int.one_dvd _
    · rw [one_pow', divL_one]
      have bl : Bd kb (leadL b) := Nat.le_trans (leadL_natAbs b) nb
      have l0 := lead0 hne tb
      rcases ha with ha | ha
      · rw [ha, hb, show 3 - 3 = 0 from rfl, nextH0]
        exact GO2 (by omega) h2 tb ht nb nr l0 (by decide) bl Bd.one hkb hk2 (by omega) hK
      · rw [ha, hb, show 4 - 3 = 1 from rfl, nextH1]
        exact GO2 (by omega) h2 tb ht nb nr l0 l0 bl bl hkb hk2 (by omega) hK
/-- a quartic and a cubic -/
theorem GO4 {p q : List Int} (hp : p.length = 5) (hq : q.length = 4) (tp : Tm p) (tq : Tm q) (np : Nb 15 p) (nq : Nb 15 q) : GO 3 p q 1 1 400 := by
  have hne := ne_of_len hq (by omega)
  obtain ⟨lc, tc, hr, ⟨e1, e0, he1, he0⟩, hnb⟩ := ps54 hp hq tp tq
  have nc : Nb 47 (pseudoL p q).2 := hnb 15 15 np nq
  have h3 := lead_ne hq tq
  have hlq := lead_of hq
  have b3 : Bd 15 (q.getD 3 0) := nq.get 3
  have hm : manyL p q ≤ 2 := by unfold manyL; omega
  by_cases h1 : (pseudoL p q).2.length ≤ 1
  · exact (GO.low (m := 2) (by omega) (by omega) (by omega) tp tq np nq hm (by omega) h1 (by decide) (by decide) (Bd.one (k := 0)) Bd.one (by decide) (by omega) (by omega)).mono (by omega)
  refine GO.more (m := 2) (by omega) (by omega) (by omega) tp tq np nq hm (by omega) (fun q => h1 (by rw [q]; simp)) (by decide) (by decide) (Bd.one (k := 0)) Bd.one (by decide) (fun i => ?_) (by omega) ?_
  · rw [one_pow']; exact Int.one_dvd _
  rw [one_pow', divL_one, hp, hq, show 5 - 4 = 1 from rfl, nextH1, hlq]
  generalize hcd : (pseudoL p q).2 = c at *
  have hc4 : c.length = 3 ∨ c.length = 2 := by omega
  rcases hc4 with hc | hc
  · obtain ⟨ld, td, hd1, hd0, hnd⟩ := ps43 hq hc tq tc
    have nd : Nb 111 (pseudoL q c).2 := hnd 15 47 nq nc
    have hc2 := lead_ne hc tc
    have hlc := lead_of hc
    have b2 : Bd 47 (c.getD 2 0) := nc.get 2
    have k33 : q.getD 3 0 * q.getD 3 0 ^ 1 ≠ 0 := mul_ne h3 (pow_ne h3 1)
    have hm2 : manyL q c ≤ 2 := by unfold manyL; omega
    have e1' : q.length - c.length = 1 := by omega
    by_cases h1 : (pseudoL q c).2.length ≤ 1
    · exact (GO.low (m := 2) (by omega) (by omega) (by omega) tq tc nq nc hm2 (by omega) h1 h3 h3 b3 b3 (by decide) (by omega) (by omega)).mono (by omega)
    have hd2 : (pseudoL q c).2.length = 2 := by omega
    have hdv : ∀ i, q.getD 3 0 * q.getD 3 0 ^ 1 ∣ (pseudoL q c).2.getD i 0 := by
      intro i
      rw [p1_]
      have hi : i = 0 ∨ i = 1 ∨ 2 ≤ i := by omega
      rcases hi with rfl | rfl | hi
      · rw [hd0, he0]; exact Int.dvd_mul_right ..
      · rw [hd1, he1]; exact Int.dvd_mul_right ..
      · rw [getD_ge (xs := (pseudoL q c).2) (by omega)]; exact Int.dvd_zero _
    refine GO.more (m := 2) (n := 1) (by omega) (by omega) (by omega) tq tc nq nc hm2 (by omega) (ne_of_len hd2 (by omega)) h3 h3 b3 b3 (by decide) (by rw [e1']; exact hdv) (by omega) ?_
    rw [e1', nextH1, hlc]
    have td' := td.div k33 hdv
    have ld' := divL_length (pseudoL q c).2 (q.getD 3 0 * q.getD 3 0 ^ 1)
    have nd' : Nb 111 (divL (pseudoL q c).2 (q.getD 3 0 * q.getD 3 0 ^ 1)) := nd.div
    exact GO2 (by omega) (by omega) tc td' nc nd' hc2 hc2 b2 b2 (by decide) (by omega) (by omega) (by omega)
  · exact (GO2 (by omega) hc tq tc nq nc h3 h3 b3 b3 (by decide) (by omega) (by omega) (by omega)).mono (by omega)
end Mine
end

section
set_option maxHeartbeats 8000000
namespace Mine
theorem gcd_zeros : ∀ (xs : List Int), (∀ x ∈ xs, x = 0) → xs.foldl (fun g n => (Int.gcd g n : Int)) 0 = 0
  | [], _ => rfl
  | y :: r, h => by
    have hy := h y List.mem_cons_self
    subst hy
    exact gcd_zeros r fun x hx => h x (List.mem_cons_of_mem _ hx)
theorem gcdL_bd {xs : List Int} {k : Nat} (n : Nb k xs) : Bd k (gcdL xs) := by
  by_cases h : ∀ x ∈ xs, x = 0
  · have : gcdL xs = 0 := gcd_zeros xs h
    rw [this]; exact Bd.zero
  · simp only [Classical.not_forall] at h
    obtain ⟨x, hx, h0⟩ := h
    have hd := (gcd_fold xs 0).2 x hx
    exact Nat.le_trans (Nat.le_of_dvd (Int.natAbs_pos.mpr h0) (Int.natAbs_dvd_natAbs.mpr hd)) (n.mem hx)
theorem prim_nb {a : List Int} {k : Nat} (n : Nb k a) : Nb k (primL a) := by
  unfold primL
  split
  · exact Nb.nil
  · exact n.div
theorem prim_facts {a : List Int} (hne : a ≠ []) (t : Tm a) : ∃ κ : Int, κ ≠ 0 ∧ (∀ x, κ * ev (primL a) x = ev a x) ∧ Tm (primL a) := by
  have hl : ¬ a.length = 0 := fun q => hne (List.eq_nil_of_length_eq_zero q)
  have g0 := gcdL_ne' hne t
  unfold primL
  rw [if_neg hl]
  by_cases h : 0 < leadL a
  · rw [if_pos h]
    exact ⟨_, g0, fun x => divL_ev g0 (gcdL_dvd a) x, t.div g0 (gcdL_dvd a)⟩
  · rw [if_neg h]
    have g1 : -gcdL a ≠ 0 := by omega
    have hd : ∀ i, -gcdL a ∣ a.getD i 0 := fun i => Int.neg_dvd.mpr (gcdL_dvd a i)
    exact ⟨_, g1, fun x => divL_ev g1 hd x, t.div g1 hd⟩
theorem Cd.symm {a b g : List Int} (c : Cd a b g) : Cd b a g := by
  rcases c with ⟨hl, N, hN, hc⟩ | ⟨hl, tg, ⟨K, hK, hd⟩, ⟨K', hK', hc⟩⟩
  · exact .inl ⟨hl, N, hN, fun x => let ⟨A, B, e⟩ := hc x; ⟨B, A, by omega⟩⟩
  · exact .inr ⟨hl, tg, ⟨K, hK, fun x => ⟨(hd x).2, (hd x).1⟩⟩, ⟨K', hK', fun x => let ⟨A, B, e⟩ := hc x; ⟨B, A, by omega⟩⟩⟩
theorem cd3 {N A B P Q k l a b : Int} (h : N = A * P + B * Q) (h1 : k * P = a) (h2 : l * Q = b) : k * l * N = A * l * a + B * k * b := by grind
theorem Cd.args {P Q a b g : List Int} {k l : Int} (hk : k ≠ 0) (hl : l ≠ 0) (h1 : ∀ x, k * ev P x = ev a x) (h2 : ∀ x, l * ev Q x = ev b x) (c : Cd P Q g) : Cd a b g := by
  rcases c with ⟨hlen, N, hN, hc⟩ | ⟨hlen, tg, ⟨K, hK, hd⟩, ⟨K', hK', hc⟩⟩
  · exact .inl ⟨hlen, k * l * N, mul_ne (mul_ne hk hl) hN, fun x => let ⟨A, B, e⟩ := hc x; ⟨_, _, cd3 e (h1 x) (h2 x)⟩⟩
  · refine .inr ⟨hlen, tg, ⟨K, hK, fun x => ⟨?_, ?_⟩⟩, ⟨k * l * K', mul_ne (mul_ne hk hl) hK', fun x => ?_⟩⟩
    · rw [← h1 x, Int.mul_left_comm]; exact Int.dvd_trans (hd x).1 (Int.dvd_mul_left ..)
    · rw [← h2 x, Int.mul_left_comm]; exact Int.dvd_trans (hd x).2 (Int.dvd_mul_left ..)
    · obtain ⟨A, B, e⟩ := hc x
      have := cd3 e (h1 x) (h2 x)
      rw [← Int.mul_assoc] at this
      exact ⟨_, _, this⟩
theorem cd4 {K g A a B b s t z : Int} (e : K * g = A * a + B * b) (h : s * z = t * g) : K * s * z = t * A * a + t * B * b := by grind
theorem Cd.res {a b g z : List Int} {s t : Int} (hs : s ≠ 0) (ht : t ≠ 0) (h : ∀ x, s * ev z x = t * ev g x) (tz : Tm z) (hz : 1 < z.length) (hg : 1 < g.length) (c : Cd a b g) : Cd a b z := by
  rcases c with ⟨hlen, _⟩ | ⟨hlen, tg, ⟨K, hK, hd⟩, ⟨K', hK', hc⟩⟩
  · omega
  · refine .inr ⟨hz, tz, ⟨t * K, mul_ne ht hK, fun x => ⟨?_, ?_⟩⟩, ⟨K' * s, mul_ne hK' hs, fun x => ?_⟩⟩
    · obtain ⟨w, hw⟩ := (hd x).1
      rw [Int.mul_assoc, hw, ← Int.mul_assoc, ← h x, Int.mul_assoc, Int.mul_left_comm]
      exact Int.dvd_mul_right ..
    · obtain ⟨w, hw⟩ := (hd x).2
      rw [Int.mul_assoc, hw, ← Int.mul_assoc, ← h x, Int.mul_assoc, Int.mul_left_comm]
      exact Int.dvd_mul_right ..
    · obtain ⟨A, B, e⟩ := hc x
      exact ⟨_, _, cd4 e (h x)⟩
theorem Cd.low {a b g z : List Int} (c : Cd a b g) (hg : ¬ 1 < g.length) (hz : z.length ≤ 1) : Cd a b z := by
  rcases c with ⟨hlen, N, h⟩ | ⟨hlen, _⟩
  · exact .inl ⟨hz, N, h⟩
  · exact absurd hlen hg
/-- the gcd of two lists, from the row of their primitive parts -/
theorem zgcd_ok {a b : List Int} {n K ka kb : Nat} (ha : a ≠ []) (hb : b ≠ []) (ta : Tm a) (tb : Tm b) (la : a.length ≤ 5) (lb : b.length ≤ 5) (na : Nb ka a) (nb : Nb kb b) (hka : ka ≤ 1000) (hkb : kb ≤ 1000) (hn : n ≤ 10) (hK : K ≤ 3500)
    (o : GO n (if a.length < b.length then primL b else primL a) (if a.length < b.length then primL a else primL b) 1 1 K) :
    ∃ Z, Fn 7 228 [.b (.zs a), .b (.zs b)] (.b (.zs Z)) ∧ Cd a b Z ∧ Z ≠ [] ∧ Tm Z ∧ Z.length ≤ a.length ∧ Z.length ≤ b.length ∧ Nb (K + kb) Z := by
  obtain ⟨rows, g, run, hrl, hlast, cd, ng, lg⟩ := o
  obtain ⟨κ, hκ, eκ, tP⟩ := prim_facts ha ta
  obtain ⟨μ, hμ, eμ, tQ⟩ := prim_facts hb tb
  have ga := gcdL_ne' ha ta
  have gb := gcdL_ne' hb tb
  have ba := gcdL_nb ha ta na
  have bb := gcdL_nb hb tb nb
  have la0 : 0 < a.length := List.length_pos_iff.mpr ha
  have lb0 : 0 < b.length := List.length_pos_iff.mpr hb
  have cdab : Cd a b g := by
    by_cases h : a.length < b.length
    · rw [if_pos h, if_pos h] at cd
      exact Cd.args hκ hμ eκ eμ cd.symm
    · rw [if_neg h, if_neg h] at cd
      exact Cd.args hκ hμ eκ eμ cd
  have lg' : g.length ≤ a.length ∧ g.length ≤ b.length := by
    by_cases h : a.length < b.length
    · rw [if_pos h, primL_length] at lg; omega
    · rw [if_neg h, primL_length] at lg; omega
  have hN0 : (Int.gcd (gcdL a) (gcdL b) : Int) ≠ 0 := by
    have : (Int.gcd (gcdL a) (gcdL b) : Int) ∣ gcdL a := Int.gcd_dvd_left ..
    intro q
    rw [q] at this
    exact ga (Int.zero_dvd.mp this)
  have bN : Bd kb (Int.gcd (gcdL a) (gcdL b) : Int) := by
    have : (Int.gcd (gcdL a) (gcdL b) : Int) ∣ gcdL b := Int.gcd_dvd_right ..
    exact Nat.le_trans (Nat.le_of_dvd (Int.natAbs_pos.mpr gb) (Int.natAbs_dvd_natAbs.mpr this)) bb
  have bg := gcdL_bd ng
  have cz := c_zgcd ha hb (by omega) (by omega) ga gb (ba.sm (Nat.lt_of_le_of_lt hka (by decide))) (bb.sm (Nat.lt_of_le_of_lt hkb (by decide))) (by omega) run hlast (by omega) (fun h1 => ?_) (bg.sm (Nat.lt_of_le_of_lt hK (by decide))) (SmL.ofNb (prim_nb ng) (Nat.lt_of_le_of_lt hK (by decide))) (bN.sm (Nat.lt_of_le_of_lt hkb (by decide)))
  · by_cases h1 : 1 < g.length
    · rw [if_pos h1] at cz
      have hgne : g ≠ [] := fun q => by rw [q] at h1; simp at h1
      have tg : Tm g := by
        rcases cdab with ⟨h2, _⟩ | ⟨_, tg, _⟩
        · omega
        · exact tg
      obtain ⟨ν, hν, eν, tR⟩ := prim_facts hgne tg
      have hlz : (scaleL (primL g) (Int.gcd (gcdL a) (gcdL b))).length = g.length := by
        unfold scaleL
        rw [if_pos (by simpa using hN0), List.length_map, primL_length]
      refine ⟨_, cz, Cd.res hν hN0 (fun x => ?_) (tR.scale _) (by omega) h1 cdab, fun q => by rw [q] at hlz; simp at hlz; omega, tR.scale _, by omega, by omega, (prim_nb ng).scale bN⟩
      rw [ev_scale, ← eν x]
      exact Int.mul_left_comm ..
    · rw [if_neg h1] at cz
      refine ⟨_, cz, Cd.low cdab h1 (by simp), by simp, fun _ => by simpa using hN0, by simp; omega, by simp; omega, ?_⟩
      show nrm _ ≤ _
      simp only [nrm, Nat.add_zero]
      exact bN.le (by omega)
  · have tg : Tm g := by
      rcases cdab with ⟨h2, _⟩ | ⟨_, tg, _⟩
      · omega
      · exact tg
    exact gcdL_ne' (fun q => by rw [q] at h1; simp at h1) tg
end Mine
end

section
set_option maxHeartbeats 8000000
namespace Mine
theorem negL_ev (f : List Int) (x : Int) : (-1) * ev (negL f) x = ev f x := by rw [ev_neg]; omega
/-- the first turn: f up to its sign -/
theorem first_gcd {f : List Int} (hne : f ≠ []) (t : Tm f) (nb : Nb 12 f) (hl : f.length ≤ 5) : ∃ F1, Fn 7 228 [.b (.zs []), .b (.zs f)] (.b (.zs F1)) ∧ Tm F1 ∧ F1.length = f.length ∧ Nb 12 F1 ∧ ∃ k : Int, k ≠ 0 ∧ ∀ x, k * ev F1 x = ev f x := by
  have g0 := gcdL_ne' hne t
  have bg := gcdL_nb hne t nb
  have hl0 : ¬ f.length = 0 := fun q => hne (List.eq_nil_of_length_eq_zero q)
  have e : onlyL [] f = f := rfl
  have c := c_zgcd_nil (a := []) (b := f) (.inl rfl) (by simp) (by omega) (fun _ => by rw [e]; exact g0) (by rw [e]; exact bg.sm (by decide)) (by rw [e]; exact SmL.ofNb (prim_nb nb) (by omega))
  rw [e] at c
  have hlen : (scaleL (primL f) (gcdL f)).length = f.length := by
    unfold scaleL
    rw [if_pos (by simpa using g0), List.length_map, primL_length]
  have tp : Tm (scaleL (primL f) (gcdL f)) := (prim_facts hne t).elim fun _ h => h.2.2.scale _
  by_cases h : 0 < leadL f
  · have e1 : scaleL (primL f) (gcdL f) = f := by
      refine Tm.ext2 tp t fun i => ?_
      rw [scaleL_getD]
      unfold primL
      rw [if_neg hl0, if_pos h, Int.mul_comm]
      exact divL_mul g0 (gcdL_dvd f i)
    rw [e1] at c
    exact ⟨f, c, t, rfl, nb, 1, by decide, fun x => Int.one_mul _⟩
  · have e1 : scaleL (primL f) (gcdL f) = negL f := by
      refine Tm.ext2 tp t.neg fun i => ?_
      rw [scaleL_getD, negL_getD]
      unfold primL
      rw [if_neg hl0, if_neg h]
      have g1 : -gcdL f ≠ 0 := by omega
      have q := divL_mul (xs := f) (i := i) g1 (Int.neg_dvd.mpr (gcdL_dvd f i))
      have q2 : gcdL f * (divL f (-gcdL f)).getD i 0 = -(-gcdL f * (divL f (-gcdL f)).getD i 0) := by rw [Int.neg_mul]; omega
      rw [Int.mul_comm, q2, q]
    rw [e1] at c
    refine ⟨negL f, c, t.neg, negL_length f, ?_, -1, by decide, fun x => negL_ev f x⟩
    show nrm _ ≤ _
    rw [nrm_neg]; exact nb
theorem cg1 {N A Z B c K A1 B1 a b : Int} (h : N = A * Z + B * c) (h1 : K * Z = A1 * a + B1 * b) : K * N = A * A1 * a + A * B1 * b + K * B * c := by grind
theorem comb3 {a b c z g : List Int} (h1 : Cd a b z) (h2 : Cd z c g) (hz : g.length ≤ z.length) :
    (1 < g.length → ∃ K : Int, K ≠ 0 ∧ Tm g ∧ ∀ x, ev g x ∣ K * ev a x ∧ ev g x ∣ K * ev b x ∧ ev g x ∣ K * ev c x) ∧ (¬ 1 < g.length → ∃ N : Int, N ≠ 0 ∧ ∀ x, ∃ A B C, N = A * ev a x + B * ev b x + C * ev c x) := by
  refine ⟨fun hg => ?_, fun hg => ?_⟩
  · rcases h2 with ⟨hlen, _⟩ | ⟨_, tg, ⟨K, hK, hd⟩, _⟩
    · omega
    · rcases h1 with ⟨hlen, _⟩ | ⟨_, tz, ⟨K1, hK1, hd1⟩, _⟩
      · omega
      · refine ⟨K * K1, mul_ne hK hK1, tg, fun x => ⟨?_, ?_, ?_⟩⟩
        · rw [Int.mul_assoc]; exact Int.dvd_trans (hd x).1 (Int.mul_dvd_mul_left K (hd1 x).1)
        · rw [Int.mul_assoc]; exact Int.dvd_trans (hd x).1 (Int.mul_dvd_mul_left K (hd1 x).2)
        · rw [Int.mul_right_comm]; exact Int.dvd_trans (hd x).2 (Int.dvd_mul_right ..)
  · rcases h2 with ⟨_, N, hN, hc⟩ | ⟨hlen, _⟩
    · rcases h1 with ⟨_, N1, hN1, hc1⟩ | ⟨_, tz, _, ⟨K1, hK1, hc1⟩⟩
      · refine ⟨N1, hN1, fun x => ?_⟩
        obtain ⟨A, B, e⟩ := hc1 x
        exact ⟨A, B, 0, by omega⟩
      · refine ⟨K1 * N, mul_ne hK1 hN, fun x => ?_⟩
        obtain ⟨A, B, e⟩ := hc x
        obtain ⟨A1, B1, e1⟩ := hc1 x
        exact ⟨_, _, _, cg1 e e1⟩
    · exact absurd hlen hg
theorem first_go {a b : List Int} (h : (a.length = 3 ∧ b.length = 2) ∨ (a.length = 4 ∧ b.length = 3) ∨ (a.length = 5 ∧ b.length = 4)) (tP : Tm (primL a)) (tQ : Tm (primL b)) (nF : Nb 15 a) (nD : Nb 15 b) :
    GO 3 (if a.length < b.length then primL b else primL a) (if a.length < b.length then primL a else primL b) 1 1 400 := by
  have pF := primL_length a
  have pD := primL_length b
  have mF := prim_nb nF
  have mD := prim_nb nD
  rcases h with ⟨h1, h2⟩ | ⟨h1, h2⟩ | ⟨h1, h2⟩ <;> rw [if_neg (by rw [h1, h2]; decide), if_neg (by rw [h1, h2]; decide)] <;> rw [h1] at pF <;> rw [h2] at pD
  · exact (GO2 (kf := 0) (by rw [pF]; decide) pD tP tQ mF mD (by decide) (by decide) Bd.one Bd.one (by decide) (by decide) (by decide) (by decide)).mono (by decide)
  · exact (GO3 (.inr pF) pD tP tQ mF mD (by decide) (by decide) (by decide) (by decide)).mono (by decide)
  · exact GO4 pF pD tP tQ mF mD
theorem next_go {a b : List Int} (h : (b.length = 1 ∧ a.length ≤ 2) ∨ (b.length = 2 ∧ a.length ≤ 3) ∨ (b.length = 3 ∧ a.length ≤ 4)) (h0 : 0 < a.length) (tP : Tm (primL a)) (tQ : Tm (primL b)) (nF : Nb 415 a) (nD : Nb 18 b) :
    GO 3 (if a.length < b.length then primL b else primL a) (if a.length < b.length then primL a else primL b) 1 1 1500 := by
  have pF := primL_length a
  have pD := primL_length b
  have mF := prim_nb nF
  have mD := prim_nb nD
  by_cases hlt : a.length < b.length
  · rw [if_pos hlt, if_pos hlt]
    by_cases h1 : a.length = 1
    · exact (GO.one (pF.trans h1) tP (mF.le (by decide))).mono (by decide)
    · have e : a.length = 2 ∧ b.length = 3 := by clear pF pD mF mD tP tQ nF nD; omega
      exact (GO2 (kf := 0) (by rw [pD, e.2]; decide) (pF.trans e.1) tQ tP mD mF (by decide) (by decide) Bd.one Bd.one (by decide) (by decide) (by decide) (by decide)).mono (by decide)
  · rw [if_neg hlt, if_neg hlt]
    rcases h with ⟨h2, h3⟩ | ⟨h2, h3⟩ | ⟨h2, h3⟩
    · exact (GO.one (pD.trans h2) tQ (mD.le (by decide))).mono (by decide)
    · exact (GO2 (kf := 0) (by rw [pF]; clear pF pD mF mD tP tQ nF nD; omega) (pD.trans h2) tP tQ mF mD (by decide) (by decide) Bd.one Bd.one (by decide) (by decide) (by decide) (by decide)).mono (by decide)
    · exact (GO3 (by rw [pF]; clear pF pD mF mD tP tQ nF nD; omega) (pD.trans h2) tP tQ mF mD (by decide) (by decide) (by decide) (by decide)).mono (by decide)
theorem lens {L A B : Nat} (hl : L = 3 ∨ L = 4 ∨ L = 5) (l1 : A = L - 1) (l2 : B = A - 1) : (L = 3 ∧ A = 2 ∧ B = 1) ∨ (L = 4 ∧ A = 3 ∧ B = 2) ∨ (L = 5 ∧ A = 4 ∧ B = 3) := by
  subst l1; subst l2
  rcases hl with rfl | rfl | rfl <;> decide
theorem lens1 {L A B : Nat} (h : (L = 3 ∧ A = 2 ∧ B = 1) ∨ (L = 4 ∧ A = 3 ∧ B = 2) ∨ (L = 5 ∧ A = 4 ∧ B = 3)) : L ≤ 5 ∧ A ≤ 5 ∧ B ≤ 5 ∧ 0 < A ∧ 0 < B ∧ ((L = 3 ∧ A = 2) ∨ (L = 4 ∧ A = 3) ∨ (L = 5 ∧ A = 4)) := by
  rcases h with ⟨rfl, rfl, rfl⟩ | ⟨rfl, rfl, rfl⟩ | ⟨rfl, rfl, rfl⟩ <;> decide
theorem lens2 {L A B Z : Nat} (h : (L = 3 ∧ A = 2 ∧ B = 1) ∨ (L = 4 ∧ A = 3 ∧ B = 2) ∨ (L = 5 ∧ A = 4 ∧ B = 3)) (hz : Z ≤ A) : (B = 1 ∧ Z ≤ 2) ∨ (B = 2 ∧ Z ≤ 3) ∨ (B = 3 ∧ Z ≤ 4) := by
  rcases h with ⟨rfl, rfl, rfl⟩ | ⟨rfl, rfl, rfl⟩ | ⟨rfl, rfl, rfl⟩
  · exact .inl ⟨rfl, hz⟩
  · exact .inr (.inl ⟨rfl, hz⟩)
  · exact .inr (.inr ⟨rfl, hz⟩)
theorem ne_len {xs : List Int} (h : 0 < xs.length) : xs ≠ [] := List.length_pos_iff.mp h
/-- the gcd of a form, its slope and its slope's slope -/
theorem gcd3 {f : List Int} (hl : f.length = 3 ∨ f.length = 4 ∨ f.length = 5) (t : Tm f) (nb : Nb 12 f) : ∃ G, Fn 8 235 [.b (.zss [f, deriveL f, deriveL (deriveL f)])] (.b (.zs G)) ∧ G.length ≤ 100 ∧
    (1 < G.length → ∃ K : Int, K ≠ 0 ∧ Tm G ∧ ∀ x, ev G x ∣ K * ev f x ∧ ev G x ∣ K * ev (deriveL f) x ∧ ev G x ∣ K * ev (deriveL (deriveL f)) x) ∧
    (¬ 1 < G.length → ∃ N : Int, N ≠ 0 ∧ ∀ x, ∃ A B C, N = A * ev f x + B * ev (deriveL f) x + C * ev (deriveL (deriveL f)) x) := by
  have hne : f ≠ [] := fun q => by rw [q] at hl; simp at hl
  have l1 := deriveL_length f
  have l2 := deriveL_length (deriveL f)
  have hL := lens hl l1 l2
  obtain ⟨L5, A5, B5, A0, B0, hLA⟩ := lens1 hL
  have t1 := t.derive
  have t2 := t1.derive
  have n1 : Nb 15 (deriveL f) := nb.derive (l := 3) (Nat.le_trans L5 (by decide))
  have n2 : Nb 18 (deriveL (deriveL f)) := n1.derive (l := 3) (Nat.le_trans A5 (by decide))
  have hne1 := ne_len A0
  have hne2 := ne_len B0
  obtain ⟨F1, c1, tF, lF, nF, k, hk, ek⟩ := first_gcd hne t nb L5
  have hneF : F1 ≠ [] := ne_len (by rw [lF]; exact List.length_pos_iff.mpr hne)
  obtain ⟨_, _, _, tP⟩ := prim_facts hneF tF
  obtain ⟨_, _, _, tQ⟩ := prim_facts hne1 t1
  obtain ⟨_, _, _, tR⟩ := prim_facts hne2 t2
  have o1 := first_go (a := F1) (b := deriveL f) (by rw [lF]; exact hLA) tP tQ (nF.le (by decide)) n1
  obtain ⟨Z1, c2, cd1, hneZ, tZ, lZa, lZb, nZ⟩ := zgcd_ok hneF hne1 tF t1 (by rw [lF]; exact L5) A5 nF n1 (by decide) (by decide) (by decide) (by decide) o1
  have nZ' : Nb 415 Z1 := nZ
  have lZ0 : 0 < Z1.length := List.length_pos_iff.mpr hneZ
  obtain ⟨_, _, _, tS⟩ := prim_facts hneZ tZ
  have o2 := next_go (a := Z1) (b := deriveL (deriveL f)) (lens2 hL lZb) lZ0 tS tR nZ' n2
  obtain ⟨Z2, c3, cd2, hneW, tW, lWa, lWb, nW⟩ := zgcd_ok hneZ hne2 tZ t2 (Nat.le_trans lZb A5) B5 nZ' n2 (by decide) (by decide) (by decide) (by decide) o2
  have cdf : Cd f (deriveL f) Z1 := Cd.args hk (by decide : (1 : Int) ≠ 0) ek (fun x => Int.one_mul _) cd1
  have lz : Z2.length ≤ 100 := Nat.le_trans lWb (Nat.le_trans B5 (by decide))
  obtain ⟨r1, r2⟩ := comb3 cdf cd2 lWa
  refine ⟨Z2, ?_, lz, r1, r2⟩
  have := c_zgcd_all (xss := [f, deriveL f, deriveL (deriveL f)]) (F := fun i => match i with | 0 => [] | 1 => F1 | 2 => Z1 | _ => Z2) rfl (fun i hi => by
    have hi' : i = 0 ∨ i = 1 ∨ i = 2 := by simp at hi; omega
    rcases hi' with rfl | rfl | rfl
    · exact c1
    · exact c2
    · exact c3)
  exact this
end Mine
end

section
set_option maxHeartbeats 8000000
namespace Mine
theorem zero_of_dvd {G : List Int} (tG : Tm G) (hG : 1 < G.length) {m : Int} (h : ∀ x, ev G x ∣ m) : m = 0 := by
  obtain ⟨N, hN⟩ := ev_unbounded tG hG m.natAbs
  have h1 := hN N (by omega)
  have h2 := Int.natAbs_dvd_natAbs.mpr (h N)
  by_cases h0 : m = 0
  · exact h0
  · have := Nat.le_of_dvd (Int.natAbs_pos.mpr h0) h2
    omega
noncomputable def fx1 (d c b a x : Int) : Int := d + 2 * c * x + 3 * b * x ^ 2 + 4 * a * x ^ 3
noncomputable def fx2 (c b a x : Int) : Int := 2 * c + 6 * b * x + 12 * a * x ^ 2
theorem I4 (e d c b a x : Int) : 4 * numI e d c b a = 48 * a * fx e d c b a x - 12 * (4 * a * x + b) * fx1 d c b a x + fx2 c b a x * fx2 c b a x := by unfold numI fx fx1 fx2; grind
theorem J4 (e d c b a x : Int) : 4 * numJ e d c b a = (144 * a * fx2 c b a x - 108 * (4 * a * x + b) ^ 2) * fx e d c b a x + (18 * (4 * a * x + b) * fx2 c b a x - 108 * a * fx1 d c b a x) * fx1 d c b a x - fx2 c b a x * fx2 c b a x * fx2 c b a x := by unfold numJ fx fx1 fx2; grind
noncomputable def pP (c b a : Int) : Int := 8 * a * c - 3 * b ^ 2
noncomputable def sP (d c b a : Int) : Int := b ^ 3 - 4 * a * b * c + 8 * a ^ 2 * d
noncomputable def rP (e d c b a : Int) : Int := 256 * a ^ 3 * e - 64 * a ^ 2 * b * d + 16 * a * b ^ 2 * c - 3 * b ^ 4
theorem idR (e d c b a : Int) : 3 * rP e d c b a + pP c b a ^ 2 = 64 * a ^ 2 * numI e d c b a := by unfold rP pP numI; grind
theorem idS (e d c b a : Int) : pP c b a ^ 3 + 27 * sP d c b a ^ 2 = 48 * a ^ 2 * pP c b a * numI e d c b a - 64 * a ^ 3 * numJ e d c b a := by unfold sP pP numI numJ; grind
theorem idF (e d c b a x : Int) : 256 * a ^ 3 * fx e d c b a x = (4 * a * x + b) ^ 4 + 2 * pP c b a * (4 * a * x + b) ^ 2 + 8 * sP d c b a * (4 * a * x + b) + rP e d c b a := by unfold fx pP sP rP; grind
theorem idF1 (d c b a x : Int) : 256 * a ^ 3 * fx1 d c b a x = 4 * a * (4 * (4 * a * x + b) ^ 3 + 4 * pP c b a * (4 * a * x + b) + 8 * sP d c b a) := by unfold fx1 pP sP; grind
theorem idF2 (c b a x : Int) : 256 * a ^ 3 * fx2 c b a x = 16 * a ^ 2 * (12 * (4 * a * x + b) ^ 2 + 4 * pP c b a) := by unfold fx2 pP; grind
theorem tr0 {y p s R : Int} (h1 : 3 * R + p ^ 2 = 0) (h2 : p ^ 3 + 27 * s ^ 2 = 0) : 3 * p ^ 4 * (y ^ 4 + 2 * p * y ^ 2 + 8 * s * y + R) = (p * y + 3 * s) * (3 * (p * y + 3 * s) ^ 2 * (p * y - 9 * s)) := by grind
theorem tr1 {y p s : Int} (h2 : p ^ 3 + 27 * s ^ 2 = 0) : 3 * p ^ 4 * (4 * y ^ 3 + 4 * p * y + 8 * s) = (p * y + 3 * s) * (12 * p * (p * y + 3 * s) * (p * y - 6 * s)) := by grind
theorem tr2 {y p s : Int} (h2 : p ^ 3 + 27 * s ^ 2 = 0) : 3 * p ^ 4 * (12 * y ^ 2 + 4 * p) = (p * y + 3 * s) * (36 * p ^ 2 * (p * y - 3 * s)) := by grind
theorem cu0 {e d c b x : Int} (hI : c ^ 2 = 3 * b * d) (hJ : c ^ 3 = 27 * e * b ^ 2) : 27 * b ^ 2 * fx e d c b 0 x = (c + 3 * b * x) * (c + 3 * b * x) ^ 2 := by unfold fx; grind
theorem cu1 {d c b x : Int} (hI : c ^ 2 = 3 * b * d) : 27 * b ^ 2 * fx1 d c b 0 x = (c + 3 * b * x) * (9 * b * (c + 3 * b * x)) := by unfold fx1; grind
theorem cu2 (c b x : Int) : 27 * b ^ 2 * fx2 c b 0 x = (c + 3 * b * x) * (54 * b ^ 2) := by unfold fx2; grind
theorem cuI {e d c b : Int} (h : numI e d c b 0 = 0) : c ^ 2 = 3 * b * d := by unfold numI at h; grind
theorem cuJ {e d c b : Int} (hI : c ^ 2 = 3 * b * d) (h : numJ e d c b 0 = 0) : c ^ 3 = 27 * e * b ^ 2 := by unfold numJ at h; grind
end Mine
end

section
set_option maxHeartbeats 8000000
namespace Mine
theorem f_ev {f : List Int} (hl : f.length ≤ 5) (x : Int) : ev f x = fx (f.getD 0 0) (f.getD 1 0) (f.getD 2 0) (f.getD 3 0) (f.getD 4 0) x := ev5 hl x
theorem f1_ev {f : List Int} (hl : f.length ≤ 5) (x : Int) : ev (deriveL f) x = fx1 (f.getD 1 0) (f.getD 2 0) (f.getD 3 0) (f.getD 4 0) x := by
  have := deriveL_length f
  rw [ev4 (xs := deriveL f) (by omega)]
  simp only [deriveL_getD]
  unfold fx1
  generalize f.getD 1 0 = d
  generalize f.getD 2 0 = c
  generalize f.getD 3 0 = b
  generalize f.getD 4 0 = a
  grind
theorem f2_ev {f : List Int} (hl : f.length ≤ 5) (x : Int) : ev (deriveL (deriveL f)) x = fx2 (f.getD 2 0) (f.getD 3 0) (f.getD 4 0) x := by
  have := deriveL_length f
  have := deriveL_length (deriveL f)
  rw [ev3 (xs := deriveL (deriveL f)) (by omega)]
  simp only [deriveL_getD]
  unfold fx2
  generalize f.getD 2 0 = c
  generalize f.getD 3 0 = b
  generalize f.getD 4 0 = a
  grind
theorem dv1 {g K I u v w f f1 f2 : Int} (h : 4 * I = u * f - v * f1 + w * f2) (h0 : g ∣ K * f) (h1 : g ∣ K * f1) (h2 : g ∣ K * f2) : g ∣ K * (4 * I) := by
  have e : K * (4 * I) = u * (K * f) - v * (K * f1) + w * (K * f2) := by rw [h]; grind
  rw [e]
  exact Int.dvd_add (Int.dvd_sub (Int.dvd_trans h0 (Int.dvd_mul_left ..)) (Int.dvd_trans h1 (Int.dvd_mul_left ..))) (Int.dvd_trans h2 (Int.dvd_mul_left ..))
theorem dv2 {g K I u v w f f1 f2 : Int} (h : 4 * I = u * f + v * f1 - w * f2) (h0 : g ∣ K * f) (h1 : g ∣ K * f1) (h2 : g ∣ K * f2) : g ∣ K * (4 * I) := by
  have e : K * (4 * I) = u * (K * f) + v * (K * f1) - w * (K * f2) := by rw [h]; grind
  rw [e]
  exact Int.dvd_sub (Int.dvd_add (Int.dvd_trans h0 (Int.dvd_mul_left ..)) (Int.dvd_trans h1 (Int.dvd_mul_left ..))) (Int.dvd_trans h2 (Int.dvd_mul_left ..))
theorem dv3 {l M N A B C f f1 f2 : Int} (h : N = A * f + B * f1 + C * f2) (h0 : l ∣ M * f) (h1 : l ∣ M * f1) (h2 : l ∣ M * f2) : l ∣ M * N := by
  have e : M * N = A * (M * f) + B * (M * f1) + C * (M * f2) := by rw [h]; grind
  rw [e]
  exact Int.dvd_add (Int.dvd_add (Int.dvd_trans h0 (Int.dvd_mul_left ..)) (Int.dvd_trans h1 (Int.dvd_mul_left ..))) (Int.dvd_trans h2 (Int.dvd_mul_left ..))
/-- no line divides what makes a constant -/
theorem no_line {l0 l1 M N : Int} (hl : l1 ≠ 0) (hM : M ≠ 0) (hN : N ≠ 0) (h : ∀ x, l0 + l1 * x ∣ M * N) : False := by
  have t : Tm [l0, l1] := fun _ => by simpa using hl
  have := zero_of_dvd t (by simp) (m := M * N) (fun x => by rw [ev2 (by simp)]; exact h x)
  exact mul_ne hM hN this
theorem four {i : Int} (q : 4 * i = 0) : i = 0 := by omega
theorem dv4 {l M1 M2 f X : Int} (h : M2 * f = X) (h' : l ∣ M1 * X) : l ∣ M1 * M2 * f := by rw [Int.mul_assoc, h]; exact h'
theorem dv5 {l M1 k Y T : Int} (h : M1 * Y = l * T) : l ∣ M1 * (k * Y) := by rw [Int.mul_left_comm, h]; exact Int.dvd_trans (Int.dvd_mul_right ..) (Int.dvd_mul_left ..)
theorem ln1 (a b p s x : Int) : p * (4 * a * x + b) + 3 * s = (p * b + 3 * s) + 4 * a * p * x := by grind
theorem cube_ok {f G : List Int} (hl : f.length = 3 ∨ f.length = 4 ∨ f.length = 5) (t : Tm f)
    (h1 : 1 < G.length → ∃ K : Int, K ≠ 0 ∧ Tm G ∧ ∀ x, ev G x ∣ K * ev f x ∧ ev G x ∣ K * ev (deriveL f) x ∧ ev G x ∣ K * ev (deriveL (deriveL f)) x)
    (h2 : ¬ 1 < G.length → ∃ N : Int, N ≠ 0 ∧ ∀ x, ∃ A B C, N = A * ev f x + B * ev (deriveL f) x + C * ev (deriveL (deriveL f)) x) :
    1 < G.length ↔ ofPad numI f = 0 ∧ ofPad numJ f = 0 := by
  have hl5 : f.length ≤ 5 := by clear h1 h2; omega
  unfold ofPad
  constructor
  · intro hG
    obtain ⟨K, hK, tG, hd⟩ := h1 hG
    simp only [f_ev hl5, f1_ev hl5, f2_ev hl5] at hd
    have z1 := zero_of_dvd tG hG (m := K * (4 * numI (f.getD 0 0) (f.getD 1 0) (f.getD 2 0) (f.getD 3 0) (f.getD 4 0))) fun x => dv1 (I4 _ _ _ _ _ x) (hd x).1 (hd x).2.1 (hd x).2.2
    have z2 := zero_of_dvd tG hG (m := K * (4 * numJ (f.getD 0 0) (f.getD 1 0) (f.getD 2 0) (f.getD 3 0) (f.getD 4 0))) fun x => dv2 (J4 _ _ _ _ _ x) (hd x).1 (hd x).2.1 (hd x).2.2
    rcases Int.mul_eq_zero.mp z1 with q | q
    · exact absurd q hK
    · rcases Int.mul_eq_zero.mp z2 with q' | q'
      · exact absurd q' hK
      · exact ⟨four q, four q'⟩
  · rintro ⟨hI, hJ⟩
    by_cases hG : 1 < G.length
    · exact hG
    · exfalso
      obtain ⟨N, hN, hc⟩ := h2 hG
      clear h1 h2
      simp only [f_ev hl5, f1_ev hl5, f2_ev hl5] at hc
      have hlead : f.getD (f.length - 1) 0 ≠ 0 := t (fun q => by rw [q] at hl; simp at hl)
      rcases hl with hl | hl | hl
      · rw [hl] at hlead
        have z3 : f.getD 3 0 = 0 := getD_ge (by omega)
        have z4 : f.getD 4 0 = 0 := getD_ge (by omega)
        rw [z3, z4] at hI
        have : f.getD 2 0 * f.getD 2 0 = 0 := by unfold numI at hI; simpa using hI
        rcases Int.mul_eq_zero.mp this with q | q <;> exact hlead q
      · rw [hl] at hlead
        have hlead' : f.getD 3 0 ≠ 0 := hlead
        have z4 : f.getD 4 0 = 0 := getD_ge (by omega)
        simp only [z4] at hI hJ hc
        have q1 := cuI hI
        have q2 := cuJ q1 hJ
        have hb2 : (27 : Int) * f.getD 3 0 ^ 2 ≠ 0 := mul_ne (by decide) (sq_ne hlead')
        refine no_line (l0 := f.getD 2 0) (l1 := 3 * f.getD 3 0) (mul_ne (by decide) hlead') hb2 hN fun x => ?_
        obtain ⟨A, B, C, e⟩ := hc x
        exact dv3 e (by rw [cu0 q1 q2]; exact Int.dvd_mul_right ..) (by rw [cu1 q1]; exact Int.dvd_mul_right ..) (by rw [cu2]; exact Int.dvd_mul_right ..)
      · rw [hl] at hlead
        have ha : f.getD 4 0 ≠ 0 := hlead
        generalize f.getD 0 0 = e at *
        generalize f.getD 1 0 = d at *
        generalize f.getD 2 0 = c at *
        generalize f.getD 3 0 = b at *
        generalize f.getD 4 0 = a at *
        have iR := idR e d c b a
        have iS := idS e d c b a
        rw [hI] at iR
        rw [hI, hJ] at iS
        rw [Int.mul_zero] at iR
        rw [Int.mul_zero, Int.mul_zero, Int.sub_zero] at iS
        have a3 : 256 * a ^ 3 ≠ 0 := mul_ne (by decide) (pow_ne ha 3)
        by_cases hp : pP c b a = 0
        · have hs : sP d c b a = 0 := by
            rw [hp] at iS
            have : sP d c b a ^ 2 = 0 := by have z : (0 : Int) ^ 3 = 0 := rfl
                                            rw [z] at iS; omega
            rw [sq_] at this
            rcases Int.mul_eq_zero.mp this with q | q <;> exact q
          have hr : rP e d c b a = 0 := by
            rw [hp] at iR
            have z : (0 : Int) ^ 2 = 0 := rfl
            rw [z] at iR; omega
          refine no_line (l0 := b) (l1 := 4 * a) (mul_ne (by decide) ha) a3 hN fun x => ?_
          have el : b + 4 * a * x = 4 * a * x + b := Int.add_comm ..
          rw [el]
          obtain ⟨A, B, C, e'⟩ := hc x
          have i0 := idF e d c b a x
          have i1 := idF1 d c b a x
          have i2 := idF2 c b a x
          rw [hp, hs, hr] at i0
          rw [hp, hs] at i1
          rw [hp] at i2
          generalize 4 * a * x + b = y at *
          refine dv3 e' ?_ ?_ ?_
          · rw [i0]; exact ⟨y ^ 3, by grind⟩
          · rw [i1]; exact ⟨16 * a * y ^ 2, by grind⟩
          · rw [i2]; exact ⟨192 * a ^ 2 * y, by grind⟩
        · have p4 : 3 * pP c b a ^ 4 ≠ 0 := mul_ne (by decide) (pow_ne hp 4)
          refine no_line (l0 := pP c b a * b + 3 * sP d c b a) (l1 := 4 * a * pP c b a) (mul_ne (mul_ne (by decide) ha) hp) (mul_ne p4 a3) hN fun x => ?_
          rw [← ln1]
          obtain ⟨A, B, C, e'⟩ := hc x
          have i0 := idF e d c b a x
          have i1 := idF1 d c b a x
          have i2 := idF2 c b a x
          have w0 := tr0 (y := 4 * a * x + b) iR iS
          have w1 := tr1 (y := 4 * a * x + b) iS
          have w2 := tr2 (y := 4 * a * x + b) iS
          refine dv3 e' ?_ ?_ ?_
          · exact dv4 i0 (by rw [w0]; exact Int.dvd_mul_right ..)
          · exact dv4 i1 (dv5 w1)
          · exact dv4 i2 (dv5 w2)
end Mine
end

section
set_option maxHeartbeats 8000000
namespace Mine
theorem bool_iff {p : Prop} [Decidable p] {I J : Int} (h : p ↔ I = 0 ∧ J = 0) : decide p = (I == 0 && J == 0) := by
  rw [Bool.eq_iff_iff]
  simp [h]
theorem alone_ok {f : List Int} (hl : f.length ≤ 5) (t : Tm f) (nb : Nb 12 f) : Fn 9 277 [.b (.zs f), .b (.int (ofPad numI f)), .b (.int (ofPad numJ f))] (.b (.bool true)) := by
  have bI : Bd 100 (ofPad numI f) := (Bd.numI (k := 12) (nb.get 0) (nb.get 1) (nb.get 2) (nb.get 3) (nb.get 4)).le (by omega)
  have bJ : Bd 100 (ofPad numJ f) := (Bd.numJ (k := 12) (nb.get 0) (nb.get 1) (nb.get 2) (nb.get 3) (nb.get 4)).le (by omega)
  have b3 : Bd 12 (f.getD 3 0) := nb.get 3
  have s0 : Sm 0 := Sm.small (by decide)
  by_cases h3 : f.length < 3
  · have n3 : ¬ 3 < f.length := by omega
    have z2 : f.getD 2 0 = 0 := getD_ge (by omega)
    have z3 : f.getD 3 0 = 0 := getD_ge (by omega)
    have z4 : f.getD 4 0 = 0 := getD_ge (by omega)
    have eI : ofPad numI f = 0 := by unfold ofPad numI; rw [z2, z3, z4]; simp
    have eJ : ofPad numJ f = 0 := by unfold ofPad numJ; rw [z2, z3, z4]; simp
    refine c_alone_right (k := 12) (G := []) (V := 0) hl nb (by omega) bI bJ (det_hankel f) (fun h => absurd h n3) s0 (by rw [Int.zero_mul]; exact s0) ?_ ?_ (fun h => absurd h3 h) (by simp) ?_
    · rw [if_neg n3, eI, eJ]; rfl
    · rw [if_neg n3]; exact s0
    · rw [eI, eJ]; simp [h3]
  · have h345 : f.length = 3 ∨ f.length = 4 ∨ f.length = 5 := by omega
    obtain ⟨G, cG, lG, d1, d2⟩ := gcd3 h345 t nb
    have hcube := cube_ok h345 t d1 d2
    clear d1 d2
    have hc : (decide (f.length < 3) || decide (1 < G.length)) = (ofPad numI f == 0 && ofPad numJ f == 0) := by
      rw [← bool_iff hcube]; simp [h3]
    clear hcube
    rcases h345 with h | h | h
    · have n3 : ¬ 3 < f.length := by omega
      have z3 : f.getD 3 0 = 0 := getD_ge (by omega)
      have z4 : f.getD 4 0 = 0 := getD_ge (by omega)
      refine c_alone_right (k := 12) (G := G) (V := 0) hl nb (by omega) bI bJ (det_hankel f) (fun h => absurd h n3) s0 (by rw [Int.zero_mul]; exact s0) ?_ ?_ (fun _ => cG) lG hc
      · rw [if_neg n3]; unfold ofPad; rw [z3, z4]; exact low_IJ _ _ _
      · rw [if_neg n3]; exact s0
    · have n3 : 3 < f.length := by omega
      have n5 : ¬ f.length = 5 := by omega
      have z4 : f.getD 4 0 = 0 := getD_ge (by omega)
      obtain ⟨cD, bD⟩ := disc_four h t nb
      refine c_alone_right (k := 12) (G := G) (V := _) hl nb (by omega) bI bJ (det_hankel f) (fun _ => cD) (bD.sm (by omega)) ((bD.mul b3).sm (by omega)) ?_ ?_ (fun _ => cG) lG hc
      · rw [if_pos n3, if_neg n5]; unfold ofPad; rw [z4]; exact disc3_IJ _ _ _ _
      · rw [if_pos n3, if_neg n5]; exact ((bD.mul b3).mul b3).sm (by omega)
    · have n3 : 3 < f.length := by omega
      obtain ⟨cD, bD⟩ := disc_five h t nb
      refine c_alone_right (k := 12) (G := G) (V := _) hl nb (by omega) bI bJ (det_hankel f) (fun _ => cD) (bD.sm (by omega)) ((bD.mul b3).sm (by omega)) ?_ ?_ (fun _ => cG) lG hc
      · rw [if_pos n3, if_pos h]; exact disc4_IJ _ _ _ _ _
      · rw [if_pos n3, if_pos h]; exact bD.sm (by omega)
theorem law1_ok (kind r0 r1 r2 r3 r4 p q r t : Int) (hb : r0.natAbs ≤ 3 ∧ r1.natAbs ≤ 3 ∧ r2.natAbs ≤ 3 ∧ r3.natAbs ≤ 3 ∧ r4.natAbs ≤ 3) : Law1 kind (r3 * (r1 ^ 2 - 4 * r0 * r2)) (fOf kind [r0, r1, r2, r3, r4]) p q r t := by
  obtain ⟨hl, nb⟩ := fOf_facts (kind := kind) hb
  have ht := fOf_tm kind [r0, r1, r2, r3, r4]
  exact {
    alone := alone_ok hl ht nb
    square := fun hk => squareL (r4 := r4) (by rw [hk]) hl ht _ rfl
    syz := syzL hl ht
    covI := covIL hl p q r t
    covJ := covJL hl p q r t
    covS := covSL hl p q r t
    covT := covTL hl p q r t
    len2 := second_len hl
    len3 := third_len hl
    lenW := moved4_len hl p q r t }
end Mine
end

open PySem PySem.W PyProof.Rows
theorem PySem.Challenge.cw_xm0145_01_holds : PySem.Challenge.rw_xm0145_01.Holds :=
  Mine.t fun kind r0 r1 r2 r3 r4 p q r t hb _ => Mine.law1_ok kind r0 r1 r2 r3 r4 p q r t hb
