import PyProof.Rows.All
import Wide.All
import OpenK.AllK
import Wide.FinOn
import Lean
import PySem.Challenge.RW_xw0047_01
open PySem PySem.W PySem.Spec PySem.Calls PyProof.Rows
set_option Elab.async false
set_option linter.all false
set_option genSizeOf false
set_option maxRecDepth 100000
set_option maxHeartbeats 8000000
namespace Mine
noncomputable abbrev pw := PySem.Challenge.pw_xw0047_01
noncomputable def vw : Program := { pw with main := { pw.main with body := (((pw.main.body.eraseIdx 12).eraseIdx 10).eraseIdx 4).eraseIdx 1 } }
noncomputable def dO (P : Params) (n : Nat) (l : List (Str × Tok × Value)) : Obj := { cls := .type "dict", data := .dict (l.map fun e => ⟨PyData.keyHash P e.1, .str e.1 e.2.1, e.2.2⟩).toArray n }
noncomputable def cO (n : Str) (a ns : Addr) (i j : Tok) : Obj := { cls := .type "type", data := .cls { name := n, bases := [.type "object"], mro := [.ref a, .type "object"], ns := ns, qualname := n }, slots := #[none, none, some (.str n i), some (.str n j), some (.builtin "object.__new__"), some (.bool true)] }
noncomputable def tO (l : List Value) : Obj := { cls := .type "tuple", data := .seq l.toArray }
noncomputable def part : Stmt → Option (Str × Arguments × List Stmt × Scope)
 | .FunctionDef n a b _ _ _ sc _ _ _ => some (n, a, b, sc)
 | .ClassDef n _ _ b _ _ sc _ _ _ _ => some (n, ⟨[], [], none, [], [], none, []⟩, b, sc)
 | _ => none
noncomputable def bO (p : Option (Str × Arguments × List Stmt × Scope)) (q : Str) (d m : Value) (c : Addr) : Obj :=
 p.elim default fun x => { cls := .type "function", data := .func { name := x.1, qualname := q, params := x.2.1, body := .stmts x.2.2.1, scope := x.2.2.2, globals := 3, closure := [], defaults := d, kwdefaults := .none, pyModule := m, code := .ref c } }
noncomputable def kO (n q : Str) (i line na r : Nat) (five : Bool) (m : Nat) : Obj := { cls := .type "code", data := .fields #[.str n i, .str q (i + 1), .str "/claim/cut.py" (i + 2), .int line 0, .int na 0, .int 0 0, .int 0 0, .int 3 0, .ref r, .bool true, .int 181 0, .ref (r + 1), .none, bif five then .ref (r + 2) else .none, bif five then .ref (r + 3) else .none, .ref (bif five then r + 4 else r + 2), .int m 0, .int line 0, .str "/claim/cut.py" (m + 1)] }
noncomputable def st (i : Nat) : Option (Str × Arguments × List Stmt × Scope) := pw.main.body[i]?.bind part
noncomputable def sm (i j : Nat) : Option (Str × Arguments × List Stmt × Scope) := (st i).bind fun x => x.2.2.1[j]?.bind part
noncomputable def K9 (P : Params) : Frag :=
(3, dO P 33 (("__name__", 165, .str "law_xw0047_01" 547) :: ("__doc__", 166, .none) :: ("__package__", 167, .none) :: ("__loader__", 168, .builtin "__main__.__loader__#opaque") :: ("__spec__", 169, .none) :: ("__annotations__", 170, .ref 6) :: ("__builtins__", 171, .ref 4) :: ("__file__", 173, .str "/claim/cut.py" 172) :: ("__cached__", 174, .none) :: ("_wall", 193, .ref 21) :: ("REFERRING", 201, .ref 22) :: ("objects_within", 213, .ref 29) :: ("BEYOND", 217, .ref 30) :: ("UNKNOWN", 220, .int (-1) 219) :: ("Summary", 258, .ref 54) :: ("EscapeFlow", 473, .ref 204) :: ("size_of_summary", 479, .ref 213) :: ("Code", 546, .ref 250) :: ("_law_spool", 557, .ref 261) :: ("_law_drawn", 566, .ref 268) :: ("_law_one", 574, .ref 275) :: ("_law_flow", 582, .ref 282) :: ("_law_add", 591, .ref 289) :: ("_law_all", 597, .ref 294) :: ("_law_out", 606, .ref 301) :: ("_law_into", 612, .ref 306) :: ("_law_followed", 618, .ref 311) :: ("_law_done", 624, .ref 316) :: ("_law_do", 630, .ref 321) :: ("_law_size", 636, .ref 326) :: ("_law_right", 655, .ref 333) :: ("_law_some", 661, .ref 338) :: ("law", 676, .ref 345) :: [])) ::
(30, tO [.str "beyond" 216]) ::
(43, kO "__init__" "Summary.__init__" 233 27 1 38 true 237) ::
(44, bO (sm 7 0) "Summary.__init__" .none (.str "chancore.escape" 214) 43) ::
(50, kO "told_by" "Summary.told_by" 240 32 2 45 true 245) ::
(51, bO (sm 7 1) "Summary.told_by" .none (.str "chancore.escape" 214) 50) ::
(53, dO P 4 (("__module__", 228, .str "chancore.escape" 214) :: ("__firstlineno__", 232, .int 25 231) :: ("__init__", 239, .ref 44) :: ("told_by", 247, .ref 51) :: ("__static_attributes__", 251, .ref 52) :: ("__dict__", 253, .ref 55) :: ("__weakref__", 255, .ref 56) :: ("__doc__", 256, .none) :: [])) ::
(54, cO "Summary" 54 53 221 229) ::
(71, kO "__init__" "EscapeFlow.__init__" 271 36 3 66 true 278) ::
(72, bO (sm 8 0) "EscapeFlow.__init__" .none (.str "chancore.escape" 214) 71) ::
(78, kO "tokens_of" "EscapeFlow.tokens_of" 281 48 2 73 true 286) ::
(79, bO (sm 8 1) "EscapeFlow.tokens_of" .none (.str "chancore.escape" 214) 78) ::
(85, kO "tokens_of_all" "EscapeFlow.tokens_of_all" 289 55 2 80 true 296) ::
(86, bO (sm 8 2) "EscapeFlow.tokens_of_all" .none (.str "chancore.escape" 214) 85) ::
(92, kO "reached" "EscapeFlow.reached" 299 61 2 87 true 307) ::
(93, bO (sm 8 3) "EscapeFlow.reached" .none (.str "chancore.escape" 214) 92) ::
(99, kO "loaded" "EscapeFlow.loaded" 310 70 2 94 true 319) ::
(100, bO (sm 8 4) "EscapeFlow.loaded" .none (.str "chancore.escape" 214) 99) ::
(106, kO "note" "EscapeFlow.note" 322 85 3 101 true 328) ::
(107, bO (sm 8 5) "EscapeFlow.note" .none (.str "chancore.escape" 214) 106) ::
(113, kO "give" "EscapeFlow.give" 331 90 3 108 true 339) ::
(114, bO (sm 8 6) "EscapeFlow.give" .none (.str "chancore.escape" 214) 113) ::
(127, kO "leak" "EscapeFlow.leak" 351 99 2 122 true 357) ::
(128, bO (sm 8 8) "EscapeFlow.leak" .none (.str "chancore.escape" 214) 127) ::
(134, kO "put" "EscapeFlow.put" 360 106 3 129 true 369) ::
(135, bO (sm 8 9) "EscapeFlow.put" .none (.str "chancore.escape" 214) 134) ::
(141, kO "put_out" "EscapeFlow.put_out" 372 119 3 136 true 379) ::
(142, bO (sm 8 10) "EscapeFlow.put_out" .none (.str "chancore.escape" 214) 141) ::
(181, kO "close_over" "EscapeFlow.close_over" 423 140 4 178 false 426) ::
(182, bO (sm 8 16) "EscapeFlow.close_over" .none (.str "chancore.escape" 214) 181) ::
(195, kO "look_at_call" "EscapeFlow.look_at_call" 438 156 3 190 true 449) ::
(196, bO (sm 8 18) "EscapeFlow.look_at_call" .none (.str "chancore.escape" 214) 195) ::
(200, kO "follow" "EscapeFlow.follow" 452 169 4 197 false 455) ::
(201, bO (sm 8 19) "EscapeFlow.follow" .none (.str "chancore.escape" 214) 200) ::
(203, dO P 4 (("__module__", 266, .str "chancore.escape" 214) :: ("__firstlineno__", 270, .int 34 269) :: ("__init__", 280, .ref 72) :: ("tokens_of", 288, .ref 79) :: ("tokens_of_all", 298, .ref 86) :: ("reached", 309, .ref 93) :: ("loaded", 321, .ref 100) :: ("note", 330, .ref 107) :: ("give", 341, .ref 114) :: ("make", 350, .ref 121) :: ("leak", 359, .ref 128) :: ("put", 371, .ref 135) :: ("put_out", 381, .ref 142) :: ("go_through", 388, .ref 149) :: ("leave", 396, .ref 156) :: ("look", 404, .ref 163) :: ("look_at_reading", 413, .ref 170) :: ("look_at_making", 422, .ref 177) :: ("close_over", 428, .ref 182) :: ("look_at_putting", 437, .ref 189) :: ("look_at_call", 451, .ref 196) :: ("follow", 457, .ref 201) :: ("__static_attributes__", 466, .ref 202) :: ("__dict__", 468, .ref 205) :: ("__weakref__", 470, .ref 206) :: ("__doc__", 471, .none) :: [])) ::
(204, cO "EscapeFlow" 204 203 259 267) ::
(212, kO "size_of_summary" "size_of_summary" 474 180 1 209 false 477) ::
(213, bO (st 9) "size_of_summary" .none (.str "chancore.escape" 214) 212) ::
(221, tO [.int 0 494, .int 0 495, .none]) ::
(227, kO "__init__" "Code.__init__" 496 185 8 222 true 507) ::
(228, bO (sm 11 0) "Code.__init__" (.ref 221) (.str "chancore.code" 480) 227) ::
(249, dO P 4 (("__module__", 489, .str "chancore.code" 480) :: ("__firstlineno__", 493, .int 183 492) :: ("__init__", 509, .ref 228) :: ("instructions", 517, .ref 235) :: ("terminator", 525, .ref 242) :: ("row", 531, .ref 247) :: ("__static_attributes__", 539, .ref 248) :: ("__dict__", 541, .ref 251) :: ("__weakref__", 543, .ref 252) :: ("__doc__", 544, .none) :: [])) ::
(250, cO "Code" 250 249 482 490) ::
(260, kO "_law_spool" "_law_spool" 549 204 1 255 true 555) ::
(261, bO (st 13) "_law_spool" .none (.str "law_xw0047_01" 547) 260) ::
(267, kO "_law_drawn" "_law_drawn" 558 208 2 262 true 564) ::
(268, bO (st 14) "_law_drawn" .none (.str "law_xw0047_01" 547) 267) ::
(274, kO "_law_one" "_law_one" 567 215 2 269 true 572) ::
(275, bO (st 15) "_law_one" .none (.str "law_xw0047_01" 547) 274) ::
(281, kO "_law_flow" "_law_flow" 575 217 1 276 true 580) ::
(282, bO (st 16) "_law_flow" .none (.str "law_xw0047_01" 547) 281) ::
(288, kO "_law_add" "_law_add" 583 220 2 283 true 589) ::
(289, bO (st 17) "_law_add" .none (.str "law_xw0047_01" 547) 288) ::
(293, kO "_law_all" "_law_all" 592 224 2 290 false 595) ::
(294, bO (st 18) "_law_all" .none (.str "law_xw0047_01" 547) 293) ::
(300, kO "_law_out" "_law_out" 598 234 2 295 true 604) ::
(301, bO (st 19) "_law_out" .none (.str "law_xw0047_01" 547) 300) ::
(305, kO "_law_into" "_law_into" 607 238 3 302 false 610) ::
(306, bO (st 20) "_law_into" .none (.str "law_xw0047_01" 547) 305) ::
(310, kO "_law_followed" "_law_followed" 613 248 4 307 false 616) ::
(311, bO (st 21) "_law_followed" .none (.str "law_xw0047_01" 547) 310) ::
(315, kO "_law_done" "_law_done" 619 259 3 312 false 622) ::
(316, bO (st 22) "_law_done" .none (.str "law_xw0047_01" 547) 315) ::
(320, kO "_law_do" "_law_do" 625 280 2 317 false 628) ::
(321, bO (st 23) "_law_do" .none (.str "law_xw0047_01" 547) 320) ::
(325, kO "_law_size" "_law_size" 631 291 3 322 false 634) ::
(326, bO (st 24) "_law_size" .none (.str "law_xw0047_01" 547) 325) ::
(332, kO "_law_right" "_law_right" 637 293 3 327 true 653) ::
(333, bO (st 25) "_law_right" .none (.str "law_xw0047_01" 547) 332) ::
(337, kO "_law_some" "_law_some" 656 330 2 334 false 659) ::
(338, bO (st 26) "_law_some" .none (.str "law_xw0047_01" 547) 337) ::
(344, kO "law" "law" 662 332 1 339 true 674) ::
(345, bO (st 27) "law" .none (.str "law_xw0047_01" 547) 344) :: []
noncomputable def as9 : List Addr := [3, 30, 43, 44, 50, 51, 53, 54, 71, 72, 78, 79, 85, 86, 92, 93, 99, 100, 106, 107, 113, 114, 127, 128, 134, 135, 141, 142, 181, 182, 195, 196, 200, 201, 203, 204, 212, 213, 221, 227, 228, 249, 250, 260, 261, 267, 268, 274, 275, 281, 282, 288, 289, 293, 294, 300, 301, 305, 306, 310, 311, 315, 316, 320, 321, 325, 326, 332, 333, 337, 338, 344, 345]
theorem keys9 : ∀ P, as9 = (K9 P).map (·.1) := fun _ => by kernel_rfl
theorem left9 : LeftO pw vw [] (fun s => xlAt vw [] s && recOk [] s) (fun s => as9.map s.heap.get?) (fun w => (K9 w.params).map fun p => some p.2) 4232 := fun w => by kernel_rfl
theorem ws9 : PySem.Challenge.rw_xw0047_01.wellSaid = true := by kernel_rfl
theorem ok9 : (chainsOk vw && opensWell pw && (frees PySem.Challenge.rw_xw0047_01.row.toRowW && PySem.Challenge.rw_xw0047_01.row.toRowW.within.isEmpty)) = true := by kernel_rfl
noncomputable def hk9 : Hook := kHook K9 as9 keys9
inductive Prim where
 | int (i : Int)
 | str (s : Str)
 deriving DecidableEq
inductive Key where
 | p (x : Prim)
 | t (l : List Prim)
 deriving DecidableEq
inductive V where
 | none
 | bool (b : Bool)
 | int (i : Int)
 | str (s : Str)
 | tup (l : List V)
 | ref (l : Nat)
 | raw (v : Value)
noncomputable def V.ofPrim : Prim → V
 | .int i => .int i
 | .str s => .str s
noncomputable def V.ofKey : Key → V
 | .p x => .ofPrim x
 | .t l => .tup (l.map .ofPrim)
noncomputable def V.prim? : V → Option Prim
 | .int i => some (.int i)
 | .str s => some (.str s)
 | _ => Option.none
noncomputable def dj : List V → Option (List Prim)
 | [] => some []
 | v :: r => match v.prim?, dj r with
  | some p, some ps => some (p :: ps)
  | _, _ => Option.none
noncomputable def V.key? : V → Option Key
 | .int i => some (.p (.int i))
 | .str s => some (.p (.str s))
 | .tup l => (dj l).map .t
 | _ => Option.none
theorem V.prim?_eq {v : V} {p : Prim} (h : v.prim? = some p) : v = .ofPrim p := by
 cases v <;> cases h <;> rfl
theorem iS {v : V} {r : List V} : dj (v :: r) = v.prim?.bind fun p => (dj r).bind fun ps => some (p :: ps) := by
 show (match v.prim?, dj r with
  | some p, some ps => some (p :: ps)
  | _, _ => Option.none) = _
 cases v.prim? with
 | none => rfl
 | some k => cases dj r <;> rfl
theorem kn : ∀ {l : List V} {ps : List Prim}, dj l = some ps → l = ps.map .ofPrim
 | [], _, h => by cases h; rfl
 | v :: r, ps, h => by
  rw [iS] at h
  obtain ⟨p, h1, h⟩ := Option.bind_eq_some_iff.mp h
  obtain ⟨ps', h2, h⟩ := Option.bind_eq_some_iff.mp h
  cases h
  rw [V.prim?_eq h1, kn h2]; rfl
theorem V.key?_eq {v : V} {k : Key} (h : v.key? = some k) : v = .ofKey k := by
 cases v with
 | int i => cases h; rfl
 | str s => cases h; rfl
 | tup l =>
  obtain ⟨ps, h1, rfl⟩ := Option.map_eq_some_iff.mp h
  rw [kn h1]; rfl
 | _ => cases h
theorem V.prim?_of (p : Prim) : (V.ofPrim p).prim? = some p := by cases p <;> rfl
theorem km : ∀ ps : List Prim, dj (ps.map .ofPrim) = some ps
 | [] => rfl
 | p :: ps => by rw [List.map_cons, iS, V.prim?_of, km ps] <;> rfl
theorem V.key?_of (k : Key) : (V.ofKey k).key? = some k := by
 cases k with
 | p x => cases x <;> rfl
 | t l => show (dj _).map _ = _; rw [km]; rfl
inductive MObj where
 | list (l : List V)
 | flist (l : List V)
 | dict (l : List (Key × V)) (n : Nat)
 | ns (l : List (Str × V))
 | inst (C : Addr) (d : Nat)
noncomputable abbrev MH := List MObj
noncomputable abbrev Loc := List (Option V)
set_option genInjectivity false in
structure Cx where
 w : World
 base : Heap
 p : Program
 loose : List Str
 mg : Str → Option Value
 mb : Str → Option Value
noncomputable abbrev Cx.K (C : Cx) : Frag := K9 C.w.params
noncomputable abbrev Cx.prog (_ : Cx) : Program := PySem.Challenge.pw_xw0047_01
noncomputable abbrev Cx.M (C : Cx) : Model := model C.prog C.w
structure Cx.Ok (C : Cx) : Prop where
 X : C.K.In C.base
 T : TopRead C.p C.loose C.mg C.mb C.base
 low : 1000 ≤ C.base.objs.size ∨ sysModules < C.base.objs.size
noncomputable def TupAt (h : Heap) (a : Addr) (vs : List Value) : Prop := ∃ o items n, h.get? a = some o ∧ o.cls = .type "tuple" ∧ o.data = .seq items n ∧ items.toList = vs
mutual
noncomputable def Rel (ρ : List Addr) (h : Heap) : V → Value → Prop
 | .none, v => v = .none
 | .bool b, v => v = .bool b
 | .int i, v => ∃ t, v = .int i t
 | .str s, v => ∃ t, v = .str s t
 | .tup l, v => ∃ a vs, v = .ref a ∧ TupAt h a vs ∧ RelL ρ h l vs
 | .ref l, v => ∃ a, v = .ref a ∧ ρ[l]? = some a
 | .raw u, v => v = u
noncomputable def RelL (ρ : List Addr) (h : Heap) : List V → List Value → Prop
 | [], vs => vs = []
 | x :: l, vs => ∃ u us, vs = u :: us ∧ Rel ρ h x u ∧ RelL ρ h l us
end
noncomputable def gv (o : Obj) : Prop := o.cls = .type "tuple" ∧ ∃ vs n, o.data = .seq vs n
structure Step (ex : Addr → Prop) (h h' : Heap) : Prop where
 tup : ∀ b o, h.get? b = some o → gv o → h'.get? b = some o
 oth : ∀ b o, h.get? b = some o → ¬ ex b → h'.get? b = some o
theorem Step.refl (ex : Addr → Prop) (h : Heap) : Step ex h h := ⟨fun ξ ξ e ξ => e, fun ξ ξ e ξ => e⟩
theorem Step.keeps {ex : Addr → Prop} {h h' : Heap} (k : ∀ b o, h.get? b = some o → h'.get? b = some o) : Step ex h h' := ⟨fun b o e ξ => k b o e, fun b o e ξ => k b o e⟩
theorem Step.mono {ex ex' : Addr → Prop} {h h' : Heap} (s : Step ex h h') (k : ∀ b, ex b → ex' b) : Step ex' h h' := ⟨s.tup, fun b o e n => s.oth b o e fun q => n (k b q)⟩
theorem TupAt.step {ex : Addr → Prop} {h h' : Heap} {a : Addr} {vs : List Value} (x : TupAt h a vs) (s : Step ex h h') : TupAt h' a vs :=
 by obtain ⟨o, i, n, ho, hc, hd, r⟩ := x; exact ⟨o, i, n, s.tup a o ho ⟨hc, i, n, hd⟩, hc, hd, r⟩
mutual
theorem Rel.step {ex : Addr → Prop} {ρ ρ' : List Addr} {h h' : Heap} (s : Step ex h h') (hp : ∃ t, ρ' = ρ ++ t) : ∀ {v : V} {rv : Value}, Rel ρ h v rv → Rel ρ' h' v rv
 | .none, _, x => x
 | .bool _, _, x => x
 | .int _, _, x => x
 | .str _, _, x => x
 | .tup l, _, x => by
  obtain ⟨a, vs, e, t, r⟩ := x
  exact ⟨a, vs, e, t.step s, RelL.step s hp r⟩
 | .ref l, _, x => by
  obtain ⟨a, e, r⟩ := x
  obtain ⟨t, rfl⟩ := hp
  exact ⟨a, e, by rw [List.getElem?_append_left (List.getElem?_eq_some_iff.mp r).1]; exact r⟩
 | .raw _, _, x => x
theorem RelL.step {ex : Addr → Prop} {ρ ρ' : List Addr} {h h' : Heap} (s : Step ex h h') (hp : ∃ t, ρ' = ρ ++ t) : ∀ {l : List V} {vs : List Value}, RelL ρ h l vs → RelL ρ' h' l vs
 | [], _, x => x
 | _ :: _, _, x => by
  obtain ⟨u, us, e, r, rs⟩ := x
  exact ⟨u, us, e, Rel.step s hp r, RelL.step s hp rs⟩
end
theorem RelL.length {ρ : List Addr} {h : Heap} : ∀ {l : List V} {vs : List Value}, RelL ρ h l vs → vs.length = l.length
 | [], _, x => by cases x; rfl
 | _ :: _, _, x => by
  obtain ⟨u, us, rfl, ξ, rs⟩ := x
  simp [rs.length]
theorem RelL.append {ρ : List Addr} {h : Heap} : ∀ {l l' : List V} {vs vs' : List Value}, RelL ρ h l vs → RelL ρ h l' vs' → RelL ρ h (l ++ l') (vs ++ vs')
 | [], _, _, _, x, y => by cases x; exact y
 | _ :: _, _, _, _, x, y => by
  obtain ⟨u, us, rfl, r, rs⟩ := x
  show RelL ρ h (_ :: (_ ++ _)) _
  exact ⟨u, us ++ _, rfl, r, rs.append y⟩
theorem RelL.get {ρ : List Addr} {h : Heap} : ∀ {l : List V} {vs : List Value} {i : Nat} {v : V}, RelL ρ h l vs → l[i]? = some v → ∃ rv, vs[i]? = some rv ∧ Rel ρ h v rv
 | [], _, _, _, _, e => by simp at e
 | _ :: _, _, 0, _, x, e => by
  obtain ⟨u, us, rfl, r, rs⟩ := x
  simp only [List.getElem?_cons_zero, Option.some.injEq] at e ⊢
  subst e; exact ⟨u, rfl, r⟩
 | _ :: _, _, i + 1, _, x, e => by
  obtain ⟨u, us, rfl, r, rs⟩ := x
  simp only [List.getElem?_cons_succ] at e ⊢
  exact rs.get e
theorem RelL.nil {ρ : List Addr} {h : Heap} : RelL ρ h [] [] := rfl
theorem RelL.cons {ρ : List Addr} {h : Heap} {v : V} {l : List V} {rv : Value} {vs : List Value} (r : Rel ρ h v rv) (rs : RelL ρ h l vs) : RelL ρ h (v :: l) (rv :: vs) := by
 exact ⟨rv, vs, rfl, r, rs⟩
inductive Unc (ρ : List Addr) (h : Heap) (v : V) (l : List V) (vs : List Value) : Prop where
 | mk (u : Value) (us : List Value) (e : vs = u :: us) (r : Rel ρ h v u ∧ RelL ρ h l us) : Unc ρ h v l vs
theorem RelL.uncons {ρ : List Addr} {h : Heap} {v : V} {l : List V} {vs : List Value} (x : RelL ρ h (v :: l) vs) : Unc ρ h v l vs := by obtain ⟨u, us, e, r, rs⟩ := x; exact ⟨u, us, e, r, rs⟩
theorem RelL.unnil {ρ : List Addr} {h : Heap} {vs : List Value} (x : RelL ρ h [] vs) : vs = [] := x
inductive All2 {α β : Type} (R : α → β → Prop) : List α → List β → Prop
 | nil : All2 R [] []
 | cons {a b l m} : R a b → All2 R l m → All2 R (a :: l) (b :: m)
theorem All2.mono {α β : Type} {R S : α → β → Prop} (k : ∀ a b, R a b → S a b) {l : List α} {m : List β} (x : All2 R l m) : All2 S l m := by
 induction x with
 | nil => exact .nil
 | cons h ξ ih => exact .cons (k _ _ h) ih
theorem All2.length {α β : Type} {R : α → β → Prop} {l : List α} {m : List β} (x : All2 R l m) : l.length = m.length := by
 induction x with
 | nil => rfl
 | cons ξ ξ ih => simp [ih]
noncomputable def Prim.isV : Prim → Value → Bool
 | .int i, v => Value.isInt i v
 | .str x, v => Value.isStrOf x v
noncomputable def Prim.hashW (w : World) : Prim → Int
 | .int i => hashInt i
 | .str x => hashStr w x
theorem Prim.isV_int {i : Int} {v : Value} (h : Prim.isV (.int i) v = true) : ∃ t, v = .int i t := Value.isInt_shape h
theorem Prim.isV_str {x : Str} {v : Value} (h : Prim.isV (.str x) v = true) : ∃ t, v = .str x t := Value.isStrOf_shape h
noncomputable def primKind (prog : Program) (w : World) : KeyKind prog w Prim where
 is := Prim.isV
 hash := Prim.hashW w
 inj := fun v a b ha hb => by
  cases a <;> cases b
  ·obtain ⟨t, rfl⟩ := Prim.isV_int ha; obtain ⟨u, e⟩ := Prim.isV_int hb; injection e with e; subst e; rfl
  ·obtain ⟨t, rfl⟩ := Prim.isV_int ha; obtain ⟨u, e⟩ := Prim.isV_str hb; cases e
  ·obtain ⟨t, rfl⟩ := Prim.isV_str ha; obtain ⟨u, e⟩ := Prim.isV_int hb; cases e
  ·obtain ⟨t, rfl⟩ := Prim.isV_str ha; obtain ⟨u, e⟩ := Prim.isV_str hb; injection e with e; subst e; rfl
 byValue := fun k v h => by
  cases k
  ·obtain ⟨t, rfl⟩ := Prim.isV_int h; rfl
  ·obtain ⟨t, rfl⟩ := Prim.isV_str h; rfl
 pyHash := fun {A E s k v Q} hv h => by
  cases k
  ·obtain ⟨t, rfl⟩ := Prim.isV_int hv; exact wpAny_pyHash_int h
  ·obtain ⟨t, rfl⟩ := Prim.isV_str hv; exact wpAny_pyHash_str h
 eqBool := fun {A E s a b u v Q} hu hv h => by
  cases a <;> cases b
  ·obtain ⟨t, rfl⟩ := Prim.isV_int hu; obtain ⟨t', rfl⟩ := Prim.isV_int hv
   exact wpAny_eqBool_int (by
    have e : ∀ i j : Int, decide (Prim.int i = Prim.int j) = (i == j) := fun i j => by simp only [Prim.int.injEq]; rfl
    exact (e _ _) ▸ h)
  ·obtain ⟨t, rfl⟩ := Prim.isV_int hu; obtain ⟨t', rfl⟩ := Prim.isV_str hv
   exact SeqAt.EqAt.int_str _ _ _ _ _ _ _ _ (by simpa using h)
  ·obtain ⟨t, rfl⟩ := Prim.isV_str hu; obtain ⟨t', rfl⟩ := Prim.isV_int hv
   exact SeqAt.EqAt.str_int _ _ _ _ _ _ _ _ (by simpa using h)
  ·obtain ⟨t, rfl⟩ := Prim.isV_str hu; obtain ⟨t', rfl⟩ := Prim.isV_str hv
   exact wpAny_eqBool_str (by simpa using h)
 «strs» := fun k x t v h => by
  cases k
  ·simp [Prim.isV, Value.isInt] at h
  ·obtain ⟨u, e⟩ := Prim.isV_str h
   injection e with e
   subst e
   cases v <;> rfl
noncomputable abbrev Cx.pk (C : Cx) : KeyKind C.prog C.w Prim := primKind C.prog C.w
noncomputable abbrev Cx.tk (C : Cx) : HeapKind C.prog C.w (List Prim) := tupleKind C.pk
theorem Rel.ofPrim {ρ : List Addr} {h : Heap} {p : Prim} {v : Value} : Rel ρ h (.ofPrim p) v ↔ Prim.isV p v = true := by
 cases p
 ·constructor
  ·intro x; obtain ⟨t, rfl⟩ := x; simp [Prim.isV, Value.isInt]
  ·intro x; obtain ⟨t, rfl⟩ := Prim.isV_int x; exact ⟨t, rfl⟩
 ·constructor
  ·intro x; obtain ⟨t, rfl⟩ := x; simp [Prim.isV, Value.isStrOf]
  ·intro x; obtain ⟨t, rfl⟩ := Prim.isV_str x; exact ⟨t, rfl⟩
theorem RelL.prims {C : Cx} {ρ : List Addr} {h : Heap} : ∀ {ps : List Prim} {vs : List Value}, RelL ρ h (ps.map .ofPrim) vs ↔ ItemsAre C.pk ps vs
 | [], vs => by
  constructor
  ·intro x; cases x.unnil; exact .nil
  ·intro x; cases x; exact .nil
 | p :: ps, vs => by
  constructor
  ·intro x
   obtain ⟨u, us, rfl, r, rs⟩ := x.uncons
   exact .cons (Rel.ofPrim.mp r) (RelL.prims.mp rs)
  ·intro x
   cases x with
   | cons r rs => exact .cons (Rel.ofPrim.mpr r) (RelL.prims.mpr rs)
theorem Rel.tupKey {C : Cx} {ρ : List Addr} {h : Heap} {ps : List Prim} {v : Value} : Rel ρ h (.tup (ps.map .ofPrim)) v ↔ ∃ a, v = .ref a ∧ IsTupleKey C.pk h ps a := by
 constructor
 ·intro x
  obtain ⟨a, vs, rfl, ⟨o, items, n, ho, hc, hd, rfl⟩, r⟩ := x
  exact ⟨a, rfl, o, items, n, ho, hc, hd, RelL.prims.mp r⟩
 ·rintro ⟨a, rfl, o, items, n, ho, hc, hd, r⟩
  exact ⟨a, _, rfl, ⟨o, items, n, ho, hc, hd, rfl⟩, RelL.prims.mpr r⟩
noncomputable def Prim.data : Prim → PyData
 | .int i => .int i
 | .str s => .str s
noncomputable def Key.data : Key → PyData
 | .p x => x.data
 | .t l => .tuple (l.map Prim.data)
theorem Rel.readsP {ρ : List Addr} {h : Heap} {p : Prim} {v : Value} (x : Rel ρ h (.ofPrim p) v) : Reads h v p.data [] := by
 cases p <;> (obtain ⟨t, rfl⟩ := x)
 ·exact .int _ _
 ·exact .str _ _
theorem RelL.readsP {ρ : List Addr} {h : Heap} : ∀ {ps : List Prim} {vs : List Value}, RelL ρ h (ps.map .ofPrim) vs → ReadsAll h vs (ps.map Prim.data) []
 | [], _, x => by cases x.unnil; exact .nil
 | p :: ps, _, x => by
  obtain ⟨u, us, rfl, r, rs⟩ := x.uncons
  exact .cons (as := []) (bs := []) (Rel.readsP r) (RelL.readsP rs)
theorem Rel.readsK {ρ : List Addr} {h : Heap} {k : Key} {v : Value} (x : Rel ρ h (.ofKey k) v) : Reads h v k.data [] := by
 cases k with
 | p q => exact Rel.readsP x
 | t l =>
  obtain ⟨a, vs, rfl, ⟨o, items, n, ho, hc, hd, rfl⟩, r⟩ := x
  exact .tuple ho hc hd (RelL.readsP r)
theorem RelL.readsK {ρ : List Addr} {h : Heap} : ∀ {ks : List Key} {vs : List Value}, RelL ρ h (ks.map .ofKey) vs → ReadsAll h vs (ks.map Key.data) []
 | [], _, x => by cases x.unnil; exact .nil
 | p :: ps, _, x => by
  obtain ⟨u, us, rfl, r, rs⟩ := x.uncons
  exact .cons (as := []) (bs := []) (Rel.readsK r) (RelL.readsK rs)
theorem oF (a b : Prim) : PyData.eqv a.data b.data = decide (a = b) := by
 cases a <;> cases b <;> simp only [Prim.data, PyData.eqv, Prim.int.injEq, Prim.str.injEq, reduceCtorEq, decide_false] <;> rfl
theorem jR : ∀ a b : List Prim, PyData.eqvAll (a.map Prim.data) (b.map Prim.data) = decide (a = b)
 | [], [] => rfl
 | [], _ :: _ => by simp [PyData.eqvAll]
 | _ :: _, [] => by simp [PyData.eqvAll]
 | x :: xs, y :: ys => by
  simp only [List.map_cons, PyData.eqvAll, oF, jR xs ys]
  by_cases h : x = y <;> by_cases h' : xs = ys <;> simp [h, h']
theorem m7 (a b : Key) : PyData.eqv a.data b.data = decide (a = b) := by
 cases a with
 | p x => cases b with
  | p y => simp only [Key.data, oF, Key.p.injEq]
  | t l => cases x <;> simp [Key.data, Prim.data, PyData.eqv]
 | t l => cases b with
  | p y => cases y <;> simp [Key.data, Prim.data, PyData.eqv]
  | t l' => simp only [Key.data, PyData.eqv, jR, Key.t.injEq]
theorem lq : ∀ a b : List Key, PyData.eqvAll (a.map Key.data) (b.map Key.data) = decide (a = b)
 | [], [] => rfl
 | [], _ :: _ => by simp [PyData.eqvAll]
 | _ :: _, [] => by simp [PyData.eqvAll]
 | x :: xs, y :: ys => by
  simp only [List.map_cons, PyData.eqvAll, m7, lq xs ys]
  by_cases h : x = y <;> by_cases h' : xs = ys <;> simp [h, h']
noncomputable abbrev dn (vs : Array Value) (n : Nat) : Obj := { cls := .type "list", data := .seq vs n }
noncomputable def EntP (ρ : List Addr) (h : Heap) (e : Key × V) (x : Prim × Value) : Prop := e.1 = .p x.1 ∧ Rel ρ h e.2 x.2
noncomputable def EntT (ρ : List Addr) (h : Heap) (e : Key × V) (x : List Prim × Addr × Value) : Prop := e.1 = .t x.1 ∧ Rel ρ h e.2 x.2.2
noncomputable def EntN (ρ : List Addr) (h : Heap) (x : Str × V) (e : DictEntry) : Prop := (∃ t, e.key = .str x.1 t) ∧ Rel ρ h x.2 e.val
noncomputable def ObjAt (C : Cx) (ρ : List Addr) (h : Heap) (a : Addr) : MObj → Prop
 | .list l => ∃ vs n, h.get? a = some (dn vs n) ∧ RelL ρ h l vs.toList
 | .flist l => ∃ o vs n, h.get? a = some o ∧ o.cls = .type "list" ∧ o.data = .seq vs n ∧ RelL ρ h l vs.toList
 | .dict l _ => (∃ kvs, h.DictOf C.pk a kvs ∧ All2 (EntP ρ h) l kvs) ∨ (∃ xs, h.DictOfH C.tk a xs ∧ All2 (EntT ρ h) l xs)
 | .ns l => ∃ es n, h.get? a = some (dictOf es n) ∧ All2 (EntN ρ h) l es
 | .inst K d => ∃ dx, h.get? a = some (instObj K dx) ∧ ρ[d]? = some dx
structure Rep (C : Cx) (ρ : List Addr) (H : MH) (h : Heap) : Prop where
 keep : ∀ b o, C.base.get? b = some o → h.get? b = some o
 size : C.base.objs.size ≤ h.objs.size
 len : ρ.length = H.length
 nodup : ρ.Nodup
 low : sysModules < C.base.objs.size
 off : ∀ a ∈ ρ, C.base.get? a = none ∧ a ≠ sysModules
 obj : ∀ (i : Nat) (a : Addr) (m : MObj), ρ[i]? = some a → H[i]? = some m → ObjAt C ρ h a m
theorem nj {C : Cx} {ex : Addr → Prop} {h h' : Heap} {ks : List Prim} {a : Addr} (s : Step ex h h') (x : IsTupleKey C.pk h ks a) : IsTupleKey C.pk h' ks a :=
 by obtain ⟨o, i, n, ho, hc, hd, r⟩ := x; exact ⟨o, i, n, s.tup a o ho ⟨hc, i, n, hd⟩, hc, hd, r⟩
theorem f8 {C : Cx} {h h' : Heap} {a : Addr} {kvs : List (Prim × Value)} (x : h.DictOf C.pk a kvs) (k : ∀ o, h.get? a = some o → h'.get? a = some o) : h'.DictOf C.pk a kvs :=
 by obtain ⟨o, es, ep, ho, r⟩ := x; exact ⟨o, es, ep, k o ho, r⟩
theorem pX {C : Cx} {ex : Addr → Prop} {h h' : Heap} {a : Addr} {xs : List (List Prim × Addr × Value)} (s : Step ex h h') (x : h.DictOfH C.tk a xs) (k : ∀ o, h.get? a = some o → h'.get? a = some o) : h'.DictOfH C.tk a xs :=
 by obtain ⟨o, es, ep, ho, hc, hd, he, his, hn⟩ := x; exact ⟨o, es, ep, k o ho, hc, hd, he, fun y hy => nj s (his y hy), hn⟩
theorem ObjAt.step {C : Cx} {ex : Addr → Prop} {ρ ρ' : List Addr} {h h' : Heap} {a : Addr} {m : MObj} (s : Step ex h h') (hp : ∃ t, ρ' = ρ ++ t) (k : ∀ o, h.get? a = some o → h'.get? a = some o)
  (x : ObjAt C ρ h a m) : ObjAt C ρ' h' a m := by
 cases m with
 | list l => obtain ⟨vs, n, ho, r⟩ := x; exact ⟨vs, n, k _ ho, r.step s hp⟩
 | flist l => obtain ⟨o, vs, n, ho, hc, hd, r⟩ := x; exact ⟨o, vs, n, k _ ho, hc, hd, r.step s hp⟩
 | dict l ξ =>
  rcases x with ⟨kvs, d, r⟩ | ⟨xs, d, r⟩
  ·exact .inl ⟨kvs, f8 d k, r.mono fun ξ ξ e => ⟨e.1, e.2.step s hp⟩⟩
  ·exact .inr ⟨xs, pX s d k, r.mono fun ξ ξ e => ⟨e.1, e.2.step s hp⟩⟩
 | ns l => obtain ⟨es, n, ho, r⟩ := x; exact ⟨es, n, k _ ho, r.mono fun ξ ξ e => ⟨e.1, e.2.step s hp⟩⟩
 | inst K d =>
  obtain ⟨dx, ho, r⟩ := x
  obtain ⟨t, rfl⟩ := hp
  exact ⟨dx, k _ ho, by rw [List.getElem?_append_left (List.getElem?_eq_some_iff.mp r).1]; exact r⟩
theorem ObjAt.there {C : Cx} {ρ : List Addr} {h : Heap} {a : Addr} {m : MObj} (x : ObjAt C ρ h a m) : ∃ o, h.get? a = some o ∧ ¬ gv o := by
 have d : Value.type "dict" ≠ .type "tuple" := by decide
 cases m with
 | list l => obtain ⟨vs, n, ho, r⟩ := x; exact ⟨_, ho, fun q => absurd q.1 (show Value.type "list" ≠ .type "tuple" by decide)⟩
 | flist l => obtain ⟨o, vs, n, ho, hc, hd, r⟩ := x; exact ⟨o, ho, fun q => absurd (hc.symm.trans q.1) (show Value.type "list" ≠ .type "tuple" by decide)⟩
 | dict l ξ =>
  rcases x with ⟨kvs, ⟨o, es, ep, ho, hc, _⟩, r⟩ | ⟨xs, ⟨o, es, ep, ho, hc, _⟩, r⟩ <;> exact ⟨o, ho, fun q => d (hc.1.symm.trans q.1)⟩
 | ns l => obtain ⟨es, n, ho, r⟩ := x; exact ⟨_, ho, fun q => d q.1⟩
 | inst K d => obtain ⟨dx, ho, r⟩ := x; exact ⟨_, ho, fun q => by cases q.1⟩
section
variable {C : Cx} {ρ ρ' ρ'' : List Addr} {H H' H'' : MH} {h h' h'' : Heap}
theorem Rep.at_ (R : Rep C ρ H h) {i : Nat} {m : MObj} (e : H[i]? = some m) : ∃ a, ρ[i]? = some a ∧ ObjAt C ρ h a m := by
 have hl : i < ρ.length := by rw [R.len]; exact (List.getElem?_eq_some_iff.mp e).1
 exact ⟨ρ[i], List.getElem?_eq_getElem hl, R.obj i _ m (List.getElem?_eq_getElem hl) e⟩
theorem Rep.at' (R : Rep C ρ H h) {i : Nat} {a : Addr} {m : MObj} (e : H[i]? = some m) (ha : ρ[i]? = some a) : ObjAt C ρ h a m := R.obj i a m ha e
theorem Rep.mem (R : Rep C ρ H h) {a : Addr} (ha : a ∈ ρ) : ∃ o, h.get? a = some o ∧ ¬ gv o := by
 obtain ⟨i, hi, rfl⟩ := List.mem_iff_getElem.mp ha
 have hl : i < H.length := by rw [← R.len]; exact hi
 exact (R.obj i _ _ (List.getElem?_eq_getElem hi) (List.getElem?_eq_getElem hl)).there
theorem Rep.lt (R : Rep C ρ H h) {a : Addr} (ha : a ∈ ρ) : a < h.objs.size := by obtain ⟨ξ, ho, ξ⟩ := R.mem ha; exact Heap.lt_size ho
theorem size_of_keeps (k : ∀ b o, h.get? b = some o → h'.get? b = some o) (hs : ∀ b, b < h.objs.size → b < h'.objs.size) : h.objs.size ≤ h'.objs.size := Nat.le_of_not_lt fun q => Nat.lt_irrefl _ (hs _ q)
theorem Rep.keeps (R : Rep C ρ H h) (k : ∀ b o, h.get? b = some o → h'.get? b = some o) (hs : h.objs.size ≤ h'.objs.size) : Rep C ρ H h' :=
 ⟨fun b o e => k b o (R.keep b o e), Nat.le_trans R.size hs, R.len, R.nodup, R.low, R.off, fun i a m hi hm => (R.obj i a m hi hm).step (ex := fun ξ => False) (.keeps k) ⟨[], by simp⟩ fun o e => k a o e⟩
@[reducible] noncomputable def sw (s : Shared) (h : Heap) (tk : Tok) : Shared := { s with heap := h, toks := tk }
structure Post (C : Cx) (ρ : List Addr) (H H' : MH) (ex : Addr → Prop) (h h' : Heap) (ρ' : List Addr) : Prop where
 step : Step (fun b => b ∈ ρ ∨ ex b) h h'
 rep : Rep C ρ' H' h'
 size : h.objs.size ≤ h'.objs.size
 ext : ∃ t, ρ' = ρ ++ t ∧ ∀ a ∈ t, h.objs.size ≤ a
 ver : ∀ (i : Nat) (a : Addr) (es : List (Key × V)) (n : Nat), ρ[i]? = some a → H[i]? = some (.dict es n) → ∃ es' n', H'[i]? = some (.dict es' n') ∧ n ≤ n' ∧ (n = n' → es = es' ∧ h'.get? a = h.get? a)
 fro : ∀ (i : Nat) (a : Addr) (xs : List V), ρ[i]? = some a → H[i]? = some (.flist xs) → H'[i]? = some (.flist xs) ∧ h'.get? a = h.get? a
noncomputable abbrev no : Addr → Prop := fun ξ => False
theorem Post.pre {ex : Addr → Prop} (P : Post C ρ H H' ex h h' ρ') : ∃ t, ρ' = ρ ++ t := by obtain ⟨t, e, ξ⟩ := P.ext; exact ⟨t, e⟩
theorem Post.refl {ex : Addr → Prop} (R : Rep C ρ H h) : Post C ρ H H ex h h ρ := ⟨.refl _ _, R, Nat.le_refl _, ⟨[], by simp, fun ξ ha => by cases ha⟩, fun ξ ξ es n ξ e => ⟨es, n, e, Nat.le_refl _, fun ξ => ⟨rfl, rfl⟩⟩, fun ξ ξ ξ ξ e => ⟨e, rfl⟩⟩
theorem Post.keeps {ex : Addr → Prop} (R : Rep C ρ H h) (k : ∀ b o, h.get? b = some o → h'.get? b = some o) (hs : h.objs.size ≤ h'.objs.size) : Post C ρ H H ex h h' ρ :=
 ⟨.keeps k, R.keeps k hs, hs, ⟨[], by simp, fun ξ ha => by cases ha⟩, fun ξ a es n ha e => ⟨es, n, e, Nat.le_refl _, fun ξ => ⟨rfl, by obtain ⟨o, ho, ξ⟩ := R.mem (List.mem_of_getElem? ha); exact (k a o ho).trans ho.symm⟩⟩, fun ξ a xs ha e => ⟨e, by obtain ⟨o, ho, ξ⟩ := R.mem (List.mem_of_getElem? ha); exact (k a o ho).trans ho.symm⟩⟩
theorem Post.trans {ex ex' : Addr → Prop} (P : Post C ρ H H' ex h h' ρ') (P' : Post C ρ' H' H'' ex' h' h'' ρ'') (he : ∀ b, ex' b → ex b ∨ h.objs.size ≤ b) : Post C ρ H H'' ex h h'' ρ'' := by
 obtain ⟨t, rfl, ht⟩ := P.ext
 obtain ⟨t', rfl, ht'⟩ := P'.ext
 refine ⟨⟨fun b o e c => P'.step.tup b o (P.step.tup b o e c) c, fun b o e n => ?_⟩, P'.rep, Nat.le_trans P.size P'.size, ⟨t ++ t', by simp, fun a ha => ?_⟩, fun i a es n ha e => ?_, fun i a xs ha e => ?_⟩
 ·have hb := Heap.lt_size e
  refine P'.step.oth b o (P.step.oth b o e n) ?_
  rintro (q | q)
  ·rcases List.mem_append.mp q with q | q
   ·exact n (.inl q)
   ·exact absurd (ht b q) (Nat.not_le.mpr hb)
  ·rcases he b q with q | q
   ·exact n (.inr q)
   ·exact absurd q (Nat.not_le.mpr hb)
 ·rcases List.mem_append.mp ha with ha | ha
  ·exact ht a ha
  ·exact Nat.le_trans P.size (ht' a ha)
 ·obtain ⟨es₁, n₁, e₁, l₁, q₁⟩ := P.ver i a es n ha e
  obtain ⟨es₂, n₂, e₂, l₂, q₂⟩ := P'.ver i a es₁ n₁ (by rw [List.getElem?_append_left (List.getElem?_eq_some_iff.mp ha).1]; exact ha) e₁
  refine ⟨es₂, n₂, e₂, Nat.le_trans l₁ l₂, fun q => ?_⟩
  obtain ⟨x1, x2⟩ := q₁ (by omega)
  obtain ⟨y1, y2⟩ := q₂ (by omega)
  exact ⟨x1.trans y1, y2.trans x2⟩
 ·obtain ⟨e₁, q₁⟩ := P.fro i a xs ha e
  obtain ⟨e₂, q₂⟩ := P'.fro i a xs (by rw [List.getElem?_append_left (List.getElem?_eq_some_iff.mp ha).1]; exact ha) e₁
  exact ⟨e₂, q₂.trans q₁⟩
theorem Post.trans0 {ex : Addr → Prop} (P : Post C ρ H H' ex h h' ρ') (P' : Post C ρ' H' H'' ex h' h'' ρ'') : Post C ρ H H'' ex h h'' ρ'' := P.trans P' fun ξ q => .inl q
theorem Post.transN {ex : Addr → Prop} (P : Post C ρ H H' ex h h' ρ') (P' : Post C ρ' H' H'' no h' h'' ρ'') : Post C ρ H H'' ex h h'' ρ'' := P.trans P' fun ξ q => q.elim
theorem Post.mono {ex ex' : Addr → Prop} (P : Post C ρ H H' ex h h' ρ') (he : ∀ b, ex b → ex' b ∨ h.objs.size ≤ b) : Post C ρ H H' ex' h h' ρ' :=
 ⟨⟨P.step.tup, fun b o e n => P.step.oth b o e (by
  rintro (q | q)
  ·exact n (.inl q)
  ·rcases he b q with q | q
   ·exact n (.inr q)
   ·exact absurd q (Nat.not_le.mpr (Heap.lt_size e)))⟩, P.rep, P.size, P.ext, P.ver, P.fro⟩
theorem Rel.post {ex : Addr → Prop} (P : Post C ρ H H' ex h h' ρ') {v : V} {rv : Value} (x : Rel ρ h v rv) : Rel ρ' h' v rv := x.step P.step P.pre
theorem RelL.post {ex : Addr → Prop} (P : Post C ρ H H' ex h h' ρ') {l : List V} {vs : List Value} (x : RelL ρ h l vs) : RelL ρ' h' l vs := x.step P.step P.pre
theorem cv (h : Heap) (o : Obj) : h.objs.size ≤ (h.push o).objs.size := by rw [Heap.size_push]; omega
theorem Post.alloc {ex : Addr → Prop} (R : Rep C ρ H h) (o : Obj) (m : MObj) (hO : ∀ h' : Heap, h'.get? h.objs.size = some o → ∀ ρ'', ObjAt C ρ'' h' h.objs.size m ∨ ObjAt C (ρ ++ [h.objs.size]) (h.push o) h.objs.size m) (hf : o.isFreed = false := by rfl) :
  Post C ρ H (H ++ [m]) ex h (h.push o) (ρ ++ [h.objs.size]) := by
 have k : ∀ b x, h.get? b = some x → (h.push o).get? b = some x := fun b x e => Heap.get?_push_of_some _ e
 have R' := R.keeps k (cv h o)
 have ha : (h.push o).get? h.objs.size = some o := Heap.get?_push_size _ hf
 refine ⟨.keeps k, ⟨R'.keep, R'.size, by simp [R.len], ?_, R.low, fun a ha => ?_, fun i a x hi hx => ?_⟩, cv h o, ⟨[h.objs.size], rfl, fun a ha => ?_⟩, fun i a es n hi e => ⟨es, n, ?_, Nat.le_refl _, fun ξ => ⟨rfl, by obtain ⟨o', ho', ξ⟩ := R.mem (List.mem_of_getElem? hi); exact (k a o' ho').trans ho'.symm⟩⟩, fun i a xs hi e => ⟨?_, by obtain ⟨o', ho', ξ⟩ := R.mem (List.mem_of_getElem? hi); exact (k a o' ho').trans ho'.symm⟩⟩
 ·refine List.nodup_append.mpr ⟨R.nodup, by simp, fun a hq b hb => ?_⟩
  rw [List.mem_singleton.mp hb]
  exact Nat.ne_of_lt (R.lt hq)
 ·rcases List.mem_append.mp ha with ha | ha
  ·exact R.off a ha
  ·rw [List.mem_singleton.mp ha]; exact ⟨Heap.get?_none_of_le R.size, Nat.ne_of_gt (Nat.lt_of_lt_of_le R.low R.size)⟩
 ·rcases Nat.lt_or_ge i ρ.length with hl | hl
  ·rw [List.getElem?_append_left hl] at hi
   rw [List.getElem?_append_left (by rw [← R.len]; exact hl)] at hx
   exact (R'.obj i a x hi hx).step (ex := fun ξ => False) (.refl _ _) ⟨[h.objs.size], rfl⟩ fun ξ e => e
  ·rw [List.getElem?_append_right hl] at hi
   rw [List.getElem?_append_right (by rw [← R.len]; exact hl)] at hx
   have hi0 : i - ρ.length = 0 := by
    have := (List.getElem?_eq_some_iff.mp hi).1
    simp at this; omega
   rw [hi0] at hi
   rw [← R.len, hi0] at hx
   simp at hi hx
   subst hi hx
   rcases hO _ ha (ρ ++ [h.objs.size]) with q | q <;> exact q
 ·rw [List.mem_singleton.mp ha]; exact Nat.le_refl _
 ·rw [List.getElem?_append_left (List.getElem?_eq_some_iff.mp e).1]; exact e
 ·rw [List.getElem?_append_left (List.getElem?_eq_some_iff.mp e).1]; exact e
theorem Post.set {ex : Addr → Prop} (R : Rep C ρ H h) {i : Nat} {a : Addr} {m : MObj} (hi : ρ[i]? = some a) (hs : Heap.SameBut a h h') (hO : ObjAt C ρ h' a m) (hv : ∀ es n, H[i]? = some (.dict es n) → ∃ es' n', m = .dict es' n' ∧ n < n') (hf : ∀ xs, H[i]? ≠ some (.flist xs)) : Post C ρ H (H.set i m) ex h h' ρ := by
 have hm : a ∈ ρ := List.mem_of_getElem? hi
 have hsz : h.objs.size ≤ h'.objs.size := Nat.le_of_eq hs.1.symm
 obtain ⟨o₀, ho₀, hc₀⟩ := R.mem hm
 have st : Step (fun b => b ∈ ρ ∨ ex b) h h' := by
  refine ⟨fun b o e c => ?_, fun b o e n => ?_⟩
  ·refine (hs.2 b fun q => ?_).trans e
   subst q
   rw [ho₀] at e; cases e
   exact hc₀ c
  ·refine (hs.2 b fun q => ?_).trans e
   subst q
   exact n (.inl hm)
 refine ⟨st, ⟨fun b o e => (hs.2 b fun q => ?_).trans (R.keep b o e), Nat.le_trans R.size hsz, by simp [R.len], R.nodup, R.low, R.off, fun j b x hj hx => ?_⟩, hsz, ⟨[], by simp, fun ξ ha => by cases ha⟩, fun j b es n hj e => ?_, fun j b xs hj e => ?_⟩
 ·subst q
  have q := (R.off b hm).1
  rw [q] at e; cases e
 ·by_cases hij : j = i
  ·subst hij
   rw [hi] at hj; cases hj
   have hl : j < H.length := by rw [← R.len]; exact (List.getElem?_eq_some_iff.mp hi).1
   rw [List.getElem?_set_self hl] at hx
   cases hx
   exact hO
  ·rw [List.getElem?_set_ne (Ne.symm hij)] at hx
   have hne : b ≠ a := fun q => by
    subst q
    exact hij ((List.getElem?_inj (List.getElem?_eq_some_iff.mp hj).1 R.nodup).mp (hj.trans hi.symm))
   exact (R.obj j b x hj hx).step st ⟨[], by simp⟩ fun o e => (hs.2 b hne).trans e
 ·by_cases hij : i = j
  ·subst hij
   obtain ⟨es', n', rfl, hlt⟩ := hv es n e
   refine ⟨es', n', List.getElem?_set_self (List.getElem?_eq_some_iff.mp e).1, Nat.le_of_lt hlt, fun q => absurd q (Nat.ne_of_lt hlt)⟩
  ·refine ⟨es, n, by rw [List.getElem?_set_ne hij]; exact e, Nat.le_refl _, fun ξ => ⟨rfl, hs.2 b fun q => ?_⟩⟩
   subst q
   exact hij ((List.getElem?_inj (List.getElem?_eq_some_iff.mp hj).1 R.nodup).mp (hj.trans hi.symm)).symm
 ·by_cases hij : i = j
  ·subst hij; exact absurd e (hf xs)
  ·refine ⟨by rw [List.getElem?_set_ne hij]; exact e, hs.2 b fun q => ?_⟩
   subst q
   exact hij ((List.getElem?_inj (List.getElem?_eq_some_iff.mp hj).1 R.nodup).mp (hj.trans hi.symm)).symm
end
structure Room (A : Around) (k : Nat) : Prop where
 hd : A.handled = none
 depth : A.depth + k < recursionLimit
 units : A.units + 8 * k + 64 < cLine
theorem u8 {a k n : Nat} (h : n ≤ 8) : a + n + 8 * k + 64 ≤ a + 8 * (k + 1) + 64 := by omega
theorem Room.le {A : Around} {k j : Nat} (r : Room A k) (h : j ≤ k) : Room A j := ⟨r.hd, Nat.lt_of_le_of_lt (Nat.add_le_add_left h _) r.depth, Nat.lt_of_le_of_lt (Nat.add_le_add_right (Nat.add_le_add_left (Nat.mul_le_mul_left 8 h) _) 64) r.units⟩
theorem Room.in1 {A : Around} {k : Nat} (r : Room A (k + 1)) : Room A.in1 k := ⟨r.hd, Nat.lt_of_succ_lt r.depth, Nat.lt_of_le_of_lt (u8 (n := 1) (by decide)) r.units⟩
theorem Room.deeper {A : Around} {k : Nat} {env : Env} (r : Room A (k + 1)) : Room (A.deeper env) k := ⟨r.hd, by show A.depth + 1 + k < _; rw [Nat.add_right_comm]; exact r.depth, Nat.lt_of_le_of_lt (u8 (n := 3) (by decide)) r.units⟩
theorem Room.lim {A : Around} {k : Nat} (r : Room A k) : A.depth < recursionLimit := Nat.lt_of_le_of_lt (Nat.le_add_right _ _) r.depth
theorem Room.u {A : Around} {k n : Nat} (r : Room A k) (h : n ≤ 64) : A.units + n < cLine := Nat.lt_of_le_of_lt (Nat.add_le_add (Nat.le_add_right _ _) h) r.units
theorem Room.u0 {A : Around} {k : Nat} (r : Room A k) : A.units < cLine := r.u (Nat.zero_le _)
structure Frm (C : Cx) (ρ : List Addr) (h : Heap) (env : Env) (loc : Loc) : Prop where
 kind : env.scope.kind = .function
 glob : env.globals = mainGlobals
 blt : env.builtins = builtinsNs
 nodup : (env.scope.names.map (·.1)).Nodup
 len : loc.length = env.scope.names.length
 ns : ∃ m, h.Ns env.locals m ∧ ∀ (i : Nat) (x : Str) (v : V), env.scope.names[i]? = some (x, .local) → loc[i]? = some (some v) → ∃ rv, m x = some rv ∧ Rel ρ h v rv
 cell : ∀ (i : Nat) (x : Str) (kd : NameKind), env.scope.names[i]? = some (x, kd) → (kd = .cell ∨ kd = .free) →
  ∃ c v₀, env.cells.lookup x = some c ∧ h.IsCell c v₀ ∧ ∀ v, loc[i]? = some (some v) → ∃ rv, v₀ = some rv ∧ Rel ρ h v rv
 off : env.locals ∉ ρ ∧ C.base.objs.size ≤ env.locals
 offc : ∀ (x : Str) (c : Addr), env.cells.lookup x = some c → c ∉ ρ ∧ c ≠ env.locals ∧ C.base.objs.size ≤ c
 apart : env.cells.Pairwise fun x y => x.2 ≠ y.2
noncomputable def own (env : Env) : Addr → Prop := fun b => b = env.locals ∨ ∃ x, env.kindOf x = some .cell ∧ env.cells.lookup x = some b
theorem da {α : Type} : ∀ {l : List (Str × α)} {i : Nat} {x : Str} {k : α}, (l.map (·.1)).Nodup → l[i]? = some (x, k) → l.lookup x = some k
 | [], _, _, _, _, e => by simp at e
 | (y, j) :: r, 0, x, k, _, e => by
  simp only [List.getElem?_cons_zero, Option.some.injEq, Prod.mk.injEq] at e
  obtain ⟨rfl, rfl⟩ := e
  simp
 | (y, j) :: r, i + 1, x, k, n, e => by
  simp only [List.getElem?_cons_succ] at e
  simp only [List.map_cons, List.nodup_cons] at n
  have hm : x ∈ r.map (·.1) := List.mem_map.mpr ⟨(x, k), List.mem_of_getElem? e, rfl⟩
  have hne : (x == y) = false := beq_eq_false_iff_ne.mpr fun q => n.1 (q ▸ hm)
  rw [List.lookup_cons, hne]
  exact da n.2 e
theorem qq {α : Type} {l : List (Str × α)} (n : (l.map (·.1)).Nodup) {i j : Nat} {x : Str} {k k' : α} (hi : l[i]? = some (x, k)) (hj : l[j]? = some (x, k')) : i = j := by
 have a : (l.map (·.1))[i]? = some x := by rw [List.getElem?_map, hi]; rfl
 have b : (l.map (·.1))[j]? = some x := by rw [List.getElem?_map, hj]; rfl
 exact (List.getElem?_inj (List.getElem?_eq_some_iff.mp a).1 n).mp (a.trans b.symm)
theorem Ns_at {h h' : Heap} {a : Addr} {m : Str → Option Value} (x : h.Ns a m) (k : ∀ o, h.get? a = some o → h'.get? a = some o) : h'.Ns a m :=
 by obtain ⟨o, es, ep, ho, r⟩ := x; exact ⟨o, es, ep, k o ho, r⟩
theorem Ns_lt {h : Heap} {a : Addr} {m : Str → Option Value} (x : h.Ns a m) : a < h.objs.size := by obtain ⟨ξ, ξ, ξ, ho, ξ⟩ := x; exact Heap.lt_size ho
theorem f7 {h h' : Heap} {a : Addr} {v : Option Value} (x : h.IsCell a v) (k : ∀ o, h.get? a = some o → h'.get? a = some o) : h'.IsCell a v :=
 by obtain ⟨o, ho, r⟩ := x; exact ⟨o, k o ho, r⟩
section
variable {C : Cx} {ρ ρ' : List Addr} {H H' : MH} {h h' : Heap} {env : Env} {loc : Loc}
theorem Frm.kindOf (F : Frm C ρ h env loc) {i : Nat} {x : Str} {kd : NameKind} (e : env.scope.names[i]? = some (x, kd)) : env.kindOf x = some kd := da F.nodup e
theorem Frm.step {ex : Addr → Prop} (F : Frm C ρ h env loc) (s : Step ex h h') (hp : ∃ t, ρ' = ρ ++ t ∧ ∀ a ∈ t, h.objs.size ≤ a)
  (k1 : ∀ o, h.get? env.locals = some o → h'.get? env.locals = some o) (k2 : ∀ x c, env.cells.lookup x = some c → ∀ o, h.get? c = some o → h'.get? c = some o) (k3 : ∀ x c, env.cells.lookup x = some c → c < h.objs.size) : Frm C ρ' h' env loc := by
 obtain ⟨t, rfl, ht⟩ := hp
 obtain ⟨m, hm, hr⟩ := F.ns
 refine ⟨F.kind, F.glob, F.blt, F.nodup, F.len, ⟨m, Ns_at hm k1, fun i x v hi hv => ?_⟩, fun i x kd hi hk => ?_, ⟨fun q => ?_, F.off.2⟩, fun x c hc => ?_, F.apart⟩
 ·obtain ⟨rv, e, r⟩ := hr i x v hi hv
  exact ⟨rv, e, r.step s ⟨t, rfl⟩⟩
 ·obtain ⟨c, v₀, hc, hv, r⟩ := F.cell i x kd hi hk
  exact ⟨c, v₀, hc, f7 hv (k2 x c hc), fun v hv => by obtain ⟨rv, e, r⟩ := r v hv; exact ⟨rv, e, r.step s ⟨t, rfl⟩⟩⟩
 ·rcases List.mem_append.mp q with q | q
  ·exact F.off.1 q
  ·exact absurd (ht _ q) (Nat.not_le.mpr (Ns_lt hm))
 ·obtain ⟨a, b, d⟩ := F.offc x c hc
  refine ⟨fun q => ?_, b, d⟩
  rcases List.mem_append.mp q with q | q
  ·exact a q
  ·exact absurd (ht _ q) (Nat.not_le.mpr (k3 x c hc))
noncomputable def CellsIn (h : Heap) (env : Env) : Prop := ∀ x c, env.cells.lookup x = some c → ∃ v, h.IsCell c v
end
structure Fr0 (C : Cx) (ρ : List Addr) (h : Heap) (env : Env) (loc : Loc) : Prop extends Frm C ρ h env loc where
 cells : CellsIn h env
section
variable {C : Cx} {ρ ρ' : List Addr} {H H' : MH} {h h' : Heap} {env : Env} {loc : Loc}
theorem Fr0.post (F : Fr0 C ρ h env loc) (P : Post C ρ H H' no h h' ρ') : Fr0 C ρ' h' env loc := by
 have kc : ∀ x c, env.cells.lookup x = some c → ∀ o, h.get? c = some o → h'.get? c = some o := fun x c hc o e => P.step.oth c o e (by rintro (q | q); exact (F.offc x c hc).1 q; exact q)
 refine ⟨F.toFrm.step P.step P.ext (fun o e => P.step.oth _ o e (by rintro (q | q); exact F.off.1 q; exact q)) kc (fun x c hc => by obtain ⟨v, hv⟩ := F.cells x c hc; exact hv.lt), fun x c hc => ?_⟩
 obtain ⟨v, hv⟩ := F.cells x c hc
 exact ⟨v, f7 hv (kc x c hc)⟩
theorem db {α : Type} {l : List α} {i j : Nat} {a b : α} (e : (l.set i a)[j]? = some b) : (i = j ∧ b = a) ∨ (i ≠ j ∧ l[j]? = some b) := by
 by_cases hij : i = j
 ·subst hij
  left
  have hl : i < l.length := by
   have := (List.getElem?_eq_some_iff.mp e).1
   simpa using this
  rw [List.getElem?_set_self hl] at e
  exact ⟨rfl, (Option.some.inj e).symm⟩
 ·rw [List.getElem?_set_ne hij] at e
  exact .inr ⟨hij, e⟩
theorem Fr0.storeX {ex : Addr → Prop} {M : Model} {A : Around} {E : Value → Shared → Prop} {s : Shared} (F : Fr0 C ρ s.heap env loc) (R : Rep C ρ H s.heap) {i : Nat} {x : Str} {kd : NameKind} {v : V} {rv : Value} {Q : Unit → Shared → Prop}
  (hi : env.scope.names[i]? = some (x, kd)) (hk : kd = .local ∨ kd = .cell) (hv : Rel ρ s.heap v rv) (x1 : kd = .local → ex env.locals) (x2 : kd = .cell → ∀ c, env.cells.lookup x = some c → ex c)
  (h : ∀ h' tk, Post C ρ H H ex s.heap h' ρ → Fr0 C ρ h' env (loc.set i (some v)) → Q () (sw s h' tk)) : wpAny M A (storeName env x rv) Q E s := by
 have key : ∀ (h' : Heap) (a : Addr), Heap.SameBut a s.heap h' → a ∉ ρ → C.base.objs.size ≤ a → ex a → (∀ o, s.heap.get? a = some o → ¬ gv o) → Post C ρ H H ex s.heap h' ρ := by
  intro h' a hs hn hb ho hc
  have st : Step (fun b => b ∈ ρ ∨ ex b) s.heap h' := by
   refine ⟨fun b o e c => (hs.2 b fun q => ?_).trans e, fun b o e n => (hs.2 b fun q => ?_).trans e⟩
   ·subst q; exact hc o e c
   ·subst q; exact n (.inr ho)
  refine ⟨st, ⟨fun b o e => (hs.2 b fun q => ?_).trans (R.keep b o e), by rw [hs.1]; exact R.size, R.len, R.nodup, R.low, R.off, fun j b m hj hm => ?_⟩, Nat.le_of_eq hs.1.symm, ⟨[], by simp, fun ξ hx => by cases hx⟩, fun j b es n hj e => ⟨es, n, e, Nat.le_refl _, fun ξ => ⟨rfl, hs.2 b fun q => hn (q ▸ List.mem_of_getElem? hj)⟩⟩, fun j b xs hj e => ⟨e, hs.2 b fun q => hn (q ▸ List.mem_of_getElem? hj)⟩⟩
  ·subst q; exact absurd (Heap.lt_size e) (Nat.not_lt.mpr hb)
  ·exact (R.obj j b m hj hm).step st ⟨[], by simp⟩ fun o e => (hs.2 b fun q => hn (q ▸ List.mem_of_getElem? hj)).trans e
 rcases hk with rfl | rfl
 ·obtain ⟨m, hm, hr⟩ := F.ns
  obtain ⟨oL, es, ep, hoL, hdL, ξ⟩ := id hm
  refine wpAny_storeName_local (F.kindOf hi) hm (fun h' hn hs => ?_) (by rw [F.kind]; rfl)
  have P := key h' _ hs F.off.1 F.off.2 (x1 rfl) fun o ho hc => by
   rw [hoL] at ho; cases ho
   obtain ⟨ξ, vs, n, hq⟩ := hc
   rw [hdL] at hq; cases hq
  have st := P.step
  refine h h' _ P ⟨⟨F.kind, F.glob, F.blt, F.nodup, by rw [List.length_set]; exact F.len, ⟨_, hn, fun j y u hj hu => ?_⟩, fun j y kd hj hk => ?_, F.off, F.offc, F.apart⟩, fun y c hc => ?_⟩
  ·rcases db hu with ⟨rfl, e⟩ | ⟨hne, hu⟩
   ·rw [hi] at hj; cases hj; cases e
    exact ⟨rv, if_pos rfl, hv.step st ⟨[], by simp⟩⟩
   ·obtain ⟨ru, e, r⟩ := hr j y u hj hu
    have hyx : y ≠ x := fun q => hne (by subst q; exact (qq F.nodup hj hi).symm)
    exact ⟨ru, by simp only [if_neg hyx]; exact e, r.step st ⟨[], by simp⟩⟩
  ·obtain ⟨c, v₀, hc, hcv, r⟩ := F.cell j y kd hj hk
   refine ⟨c, v₀, hc, hcv.sameBut hs (F.offc y c hc).2.1, fun u hu => ?_⟩
   rcases db hu with ⟨rfl, e⟩ | ⟨hne, hu⟩
   ·rw [hi] at hj; cases hj; rcases hk with q | q <;> cases q
   ·obtain ⟨ru, e, r⟩ := r u hu
    exact ⟨ru, e, r.step st ⟨[], by simp⟩⟩
  ·obtain ⟨v, hv⟩ := F.cells y c hc
   exact ⟨v, hv.sameBut hs (F.offc y c hc).2.1⟩
 ·obtain ⟨c, v₀, hc, hcv, hr⟩ := F.cell i x _ hi (.inl rfl)
  obtain ⟨oC, hoC, hdC⟩ := id hcv
  obtain ⟨o1, o2, o3⟩ := F.offc x c hc
  refine wpAny_storeName_cell F.kind (F.kindOf hi) hc hcv fun h' hcv' hs => ?_
  have P := key h' c hs o1 o3 (x2 rfl c hc) fun o ho hq => by
   rw [hoC] at ho; cases ho
   obtain ⟨ξ, vs, n, hq⟩ := hq
   rw [hdC] at hq; cases hq
  have st := P.step
  obtain ⟨m, hm, hml⟩ := F.ns
  refine h h' _ P ⟨⟨F.kind, F.glob, F.blt, F.nodup, by rw [List.length_set]; exact F.len, ⟨m, hm.sameBut hs (Ne.symm o2), fun j y u hj hu => ?_⟩, fun j y kd hj hk => ?_, F.off, F.offc, F.apart⟩, fun y c' hc' => ?_⟩
  ·rcases db hu with ⟨rfl, e⟩ | ⟨hne, hu⟩
   ·rw [hi] at hj; cases hj
   ·obtain ⟨ru, e, r⟩ := hml j y u hj hu
    exact ⟨ru, e, r.step st ⟨[], by simp⟩⟩
  ·by_cases hyx : y = x
   ·subst hyx
    obtain rfl := qq F.nodup hj hi
    refine ⟨c, some rv, hc, hcv', fun u hu => ?_⟩
    rcases db hu with ⟨_, e⟩ | ⟨hne, _⟩
    ·cases e; exact ⟨rv, rfl, hv.step st ⟨[], by simp⟩⟩
    ·exact absurd rfl hne
   ·obtain ⟨c', v₁, hc', hcv₁, r⟩ := F.cell j y kd hj hk
    have hne : c' ≠ c := fun q => hyx (name_of_addr F.apart (mem_of_lookup hc') (q ▸ mem_of_lookup hc))
    refine ⟨c', v₁, hc', hcv₁.sameBut hs hne, fun u hu => ?_⟩
    rcases db hu with ⟨rfl, e⟩ | ⟨_, hu⟩
    ·exact absurd (by rw [hi] at hj; cases hj; rfl) hyx
    ·obtain ⟨ru, e, r⟩ := r u hu
     exact ⟨ru, e, r.step st ⟨[], by simp⟩⟩
  ·by_cases hcc : c' = c
   ·subst hcc; exact ⟨_, hcv'⟩
   ·obtain ⟨v, hv⟩ := F.cells y c' hc'
    exact ⟨v, hv.sameBut hs hcc⟩
theorem Fr0.store {M : Model} {A : Around} {E : Value → Shared → Prop} {s : Shared} (F : Fr0 C ρ s.heap env loc) (R : Rep C ρ H s.heap) {i : Nat} {x : Str} {kd : NameKind} {v : V} {rv : Value} {Q : Unit → Shared → Prop}
  (hi : env.scope.names[i]? = some (x, kd)) (hk : kd = .local ∨ kd = .cell) (hv : Rel ρ s.heap v rv)
  (h : ∀ h' tk, Post C ρ H H (own env) s.heap h' ρ → Fr0 C ρ h' env (loc.set i (some v)) → Q () (sw s h' tk)) : wpAny M A (storeName env x rv) Q E s :=
 F.storeX R hi hk hv (fun ξ => .inl rfl) (fun e c hc => .inr ⟨x, by rw [F.kindOf hi, e], hc⟩) h
theorem Fr0.load {M : Model} {A : Around} {E : Value → Shared → Prop} {s : Shared} (F : Fr0 C ρ s.heap env loc) {i : Nat} {x : Str} {kd : NameKind} {v : V} {Q : Value → Shared → Prop}
  (hi : env.scope.names[i]? = some (x, kd)) (hk : kd = .local ∨ kd = .cell ∨ kd = .free) (hv : loc[i]? = some (some v)) (hn : (x == ("__classdict__" : Str)) = false)
  (h : ∀ rv, Rel ρ s.heap v rv → Q rv s) : wpAny M A (loadName env x) Q E s := by
 rcases hk with rfl | rfl | rfl
 ·obtain ⟨m, hm, hr⟩ := F.ns
  obtain ⟨rv, e, r⟩ := hr i x v hi hv
  exact wpAny_loadName_local F.kind (F.kindOf hi) hm e (h rv r)
 ·obtain ⟨c, v₀, hc, hcv, hr⟩ := F.cell i x _ hi (.inl rfl)
  obtain ⟨rv, rfl, r⟩ := hr v hv
  exact wpAny_loadName_cell F.kind (F.kindOf hi) hc hcv (h rv r)
 ·obtain ⟨c, v₀, hc, hcv, hr⟩ := F.cell i x _ hi (.inr rfl)
  obtain ⟨rv, rfl, r⟩ := hr v hv
  exact wpAny_loadName_free F.kind (F.kindOf hi) hc hcv (h rv r) hn
end
noncomputable abbrev OM (α : Type) := MH → Option (α × MH)
noncomputable def rt {α : Type} (a : α) : OM α := fun H => some (a, H)
noncomputable def cZ {α : Type} : OM α := fun ξ => Option.none
noncomputable def bnd {α β : Type} (x : OM α) (f : α → OM β) : OM β := fun H => match x H with
 | some (a, H') => f a H'
 | Option.none => Option.none
theorem nul {α : Type} {a : α} {p : Prop} (e : (Option.none : Option α) = some a) : p := by cases e
inductive Bnd {α β : Type} (x : OM α) (f : α → OM β) (H : MH) (b : β) (H' : MH) : Prop where
 | mk (a : α) (H₁ : MH) (h0 : x H = some (a, H₁)) (h1 : f a H₁ = some (b, H')) : Bnd x f H b H'
theorem an {α β : Type} {x : OM α} {f : α → OM β} {H : MH} {b : β} {H' : MH} (e : bnd x f H = some (b, H')) : Bnd x f H b H' := by
 unfold bnd at e
 split at e
 ·rename_i a H₁ h; exact ⟨a, H₁, h, e⟩
 ·cases e
noncomputable abbrev EM (α : Type) := Loc → OM α
@[reducible] noncomputable def KR {α β : Type} (C : Cx) (ρ : List Addr) (H H' : MH) (s : Shared) (R : List Addr → Heap → β → α → Prop) (v : β) (Q : α → Shared → Prop) : Prop := ∀ ρ' h' tk rv, Post C ρ H H' no s.heap h' ρ' → R ρ' h' v rv → Q rv (sw s h' tk)
noncomputable def Op1 (C : Cx) (k : Nat) (t : Value → Sem Value) (m : V → OM V) : Prop :=
 ∀ ⦃A : Around⦄ ⦃s : Shared⦄ ⦃ρ : List Addr⦄ ⦃H : MH⦄ ⦃a : V⦄ ⦃ra : Value⦄ ⦃v : V⦄ ⦃H' : MH⦄ ⦃Q : Value → Shared → Prop⦄ ⦃E : Value → Shared → Prop⦄, C.Ok → Room A k → Rep C ρ H s.heap → Rel ρ s.heap a ra →
  m a H = some (v, H') → KR C ρ H H' s Rel v Q → wpAny C.M A (t ra) Q E s
noncomputable def Op2 (C : Cx) (k : Nat) (t : Value → Value → Sem Value) (m : V → V → OM V) : Prop :=
 ∀ ⦃A : Around⦄ ⦃s : Shared⦄ ⦃ρ : List Addr⦄ ⦃H : MH⦄ ⦃a b : V⦄ ⦃ra rb : Value⦄ ⦃v : V⦄ ⦃H' : MH⦄ ⦃Q : Value → Shared → Prop⦄ ⦃E : Value → Shared → Prop⦄, C.Ok → Room A k → Rep C ρ H s.heap → Rel ρ s.heap a ra → Rel ρ s.heap b rb →
  m a b H = some (v, H') → KR C ρ H H' s Rel v Q → wpAny C.M A (t ra rb) Q E s
noncomputable def OpL (C : Cx) (k : Nat) (t : List Value → Sem Value) (m : List V → OM V) : Prop :=
 ∀ ⦃A : Around⦄ ⦃s : Shared⦄ ⦃ρ : List Addr⦄ ⦃H : MH⦄ ⦃l : List V⦄ ⦃vs : List Value⦄ ⦃v : V⦄ ⦃H' : MH⦄ ⦃Q : Value → Shared → Prop⦄ ⦃E : Value → Shared → Prop⦄, C.Ok → Room A k → Rep C ρ H s.heap → RelL ρ s.heap l vs →
  m l H = some (v, H') → KR C ρ H H' s Rel v Q → wpAny C.M A (t vs) Q E s
noncomputable def Sim {α β : Type} (C : Cx) (k : Nat) (sc : Scope) (t : Env → Sem α) (R : List Addr → Heap → β → α → Prop) (f : EM β) : Prop :=
 ∀ ⦃A : Around⦄ ⦃env : Env⦄ ⦃s : Shared⦄ ⦃ρ : List Addr⦄ ⦃H : MH⦄ ⦃loc : Loc⦄ ⦃v : β⦄ ⦃H' : MH⦄ ⦃Q : α → Shared → Prop⦄ ⦃E : Value → Shared → Prop⦄, C.Ok → Room A k → env.scope = sc → Rep C ρ H s.heap → Fr0 C ρ s.heap env loc →
  f loc H = some (v, H') → KR C ρ H H' s R v Q → wpAny C.M A (t env) Q E s
noncomputable abbrev SimE (C : Cx) (k : Nat) (sc : Scope) (e : Expr) (f : EM V) : Prop := Sim C k sc (fun env => eval e env) Rel f
noncomputable abbrev SimB (C : Cx) (k : Nat) (sc : Scope) (e : Expr) (f : EM Bool) : Prop := Sim C k sc (fun env => isTrue e env (eval e env)) (fun ξ ξ b c => c = b) f
noncomputable def dU (es : List Expr) : Bool := es.all fun | .Starred .. => false | _ => true
theorem lM {x : Expr} {r : List Expr} {env : Env} (h : dU (x :: r) = true) : starEach (x :: r) env = (false, eval x env) :: starEach r env := by
 cases x <;> first | rfl | exact absurd (show false = true from h) Bool.false_ne_true
structure SimL (C : Cx) (k : Nat) (sc : Scope) (es : List Expr) (f : EM (List V)) : Prop where
 star : dU es = true
 run : ∀ pos : Pos, Sim C k sc (fun env => spliced (backTo pos (starEach es env))) RelL f
noncomputable def eC {α : Type} (v : α) : EM α := fun ξ => rt v
noncomputable def eLoc (i : Nat) : EM V := fun loc H => match loc[i]? with
 | some (some v) => some (v, H)
 | _ => Option.none
noncomputable def e1 (m : V → OM V) (f : EM V) : EM V := fun loc => bnd (f loc) m
noncomputable def e2 (m : V → V → OM V) (f g : EM V) : EM V := fun loc => bnd (f loc) fun a => bnd (g loc) fun b => m a b
noncomputable def eL (m : List V → OM V) (f : EM (List V)) : EM V := fun loc => bnd (f loc) m
noncomputable def eIf (c : EM Bool) (f g : EM V) : EM V := fun loc => bnd (c loc) fun b => if b then f loc else g loc
noncomputable def lNil : EM (List V) := eC []
noncomputable def ac (f : EM V) (g : EM (List V)) : EM (List V) := fun loc => bnd (f loc) fun v => bnd (g loc) fun l => rt (v :: l)
noncomputable def bV (f : EM V) : EM Bool := fun loc => bnd (f loc) fun v => match v with
 | .bool b => rt b
 | _ => cZ
noncomputable def bNot (f : EM Bool) : EM Bool := fun loc => bnd (f loc) fun b => rt (!b)
noncomputable def bAnd (f g : EM Bool) : EM Bool := fun loc => bnd (f loc) fun b => if b then g loc else rt false
noncomputable def bOr (f g : EM Bool) : EM Bool := fun loc => bnd (f loc) fun b => if b then rt true else g loc
noncomputable def bTrue : EM Bool := eC true
noncomputable def bFalse : EM Bool := eC false
section
variable {C : Cx} {k : Nat} {sc : Scope}
theorem Op1.le {j : Nat} {t : Value → Sem Value} {m : V → OM V} (x : Op1 C j t m) (h : j ≤ k) : Op1 C k t m := fun ξ ξ ξ ξ ξ ξ ξ ξ ξ ξ o r => x o (r.le h)
theorem Op2.le {j : Nat} {t : Value → Value → Sem Value} {m : V → V → OM V} (x : Op2 C j t m) (h : j ≤ k) : Op2 C k t m := fun ξ ξ ξ ξ ξ ξ ξ ξ ξ ξ ξ ξ o r => x o (r.le h)
theorem OpL.le {j : Nat} {t : List Value → Sem Value} {m : List V → OM V} (x : OpL C j t m) (h : j ≤ k) : OpL C k t m := fun ξ ξ ξ ξ ξ ξ ξ ξ ξ ξ o r => x o (r.le h)
theorem Sim.le {α β : Type} {j : Nat} {t : Env → Sem α} {R : List Addr → Heap → β → α → Prop} {f : EM β} (x : Sim C j sc t R f) (h : j ≤ k) : Sim C k sc t R f := fun ξ ξ ξ ξ ξ ξ ξ ξ ξ ξ o r => x o (r.le h)
theorem gy {n : Nat} {pos : Pos} : SimE C k sc (.Constant .none n pos) (eC .none) := fun ξ ξ s ρ ξ ξ ξ ξ ξ ξ ξ ξ ξ R ξ e hQ => by
 cases e
 exact wpAny_pure (hQ ρ s.heap s.toks .none (.refl R) rfl)
theorem bX {n : Nat} {pos : Pos} {b : Bool} : SimE C k sc (.Constant (.bool b) n pos) (eC (.bool b)) := fun ξ ξ s ρ ξ ξ ξ ξ ξ ξ ξ ξ ξ R ξ e hQ => by
 cases e
 exact wpAny_pure (hQ ρ s.heap s.toks (.bool b) (.refl R) rfl)
theorem sim_int {n : Nat} {pos : Pos} {i : Int} : SimE C k sc (.Constant (.int i) n pos) (eC (.int i)) := fun ξ ξ s ρ ξ ξ ξ ξ ξ ξ ξ ξ ξ R ξ e hQ => by
 cases e
 exact wpAny_Constant_int (hQ ρ s.heap _ _ (.refl R) ⟨_, rfl⟩)
theorem sim_str {n : Nat} {pos : Pos} {x : Str} : SimE C k sc (.Constant (.str x) n pos) (eC (.str x)) := fun ξ ξ s ρ ξ ξ ξ ξ ξ ξ ξ ξ ξ R ξ e hQ => by
 cases e
 exact Constant_str (hQ ρ s.heap _ _ (.refl R) ⟨_, rfl⟩)
theorem sim_loc {x : Str} {pos : Pos} {i : Nat} {kd : NameKind} (hi : sc.names[i]? = some (x, kd)) (hk : kd = .local ∨ kd = .cell ∨ kd = .free)
  (hn : ((x == ("__classdict__" : Str)) || (x == ("__debug__" : Str))) = false) : SimE C k sc (.Name x pos) (eLoc i) := fun ξ env s ρ H loc v H' ξ ξ ξ ξ hs R F e hQ => by
 subst hs
 rw [Bool.or_eq_false_iff] at hn
 unfold eLoc at e
 cases hu : loc[i]? with
 | none => rw [hu] at e; exact nul e
 | some w =>
  rw [hu] at e
  cases w with
  | none => exact nul e
  | some u =>
   cases e
   exact wpAny_Name (F.load hi hk hu hn.1 fun rv r => hQ ρ s.heap s.toks rv (.refl R) r) hn.2
theorem cE {x : Str} {pos : Pos} {v : V} {rv : Value} (hx : sc.names.lookup x = some .globalImplicit) (hd : (x == ("__debug__" : Str)) = false) (hn : nsIn C.K mainGlobals x = some (some rv))
  (hv : C.Ok → Rel [] C.base v rv) : SimE C k sc (.Name x pos) (eC v) := fun ξ env s ρ H loc v' H' ξ ξ o ξ hs R F e hQ => by
 subst hs
 cases e
 have hk : ∀ b o, C.base.get? b = some o → s.heap.get? b = some o := R.keep
 refine wpAny_Name ?_ hd
 have T := o.T
 have hm := mg_of o.X T.g hn
 rw [PyProof.Rows.loadName_read F.kind hx]
 exact loadGlobal_global (by rw [F.glob]; exact T.g.keeps hk) hm (hQ ρ s.heap s.toks rv (.refl R) ((hv o).step (.keeps (ex := no) hk) ⟨ρ, rfl⟩))
theorem sim_blt {x : Str} {pos : Pos} {rv : Value} (hx : sc.names.lookup x = some .globalImplicit) (hd : (x == ("__debug__" : Str)) = false) (hn : nsIn C.K mainGlobals x = some none) (hb : bootBuiltins x = some rv) (hnm : x ≠ "__name__") :
  SimE C k sc (.Name x pos) (eC (.raw rv)) := fun ξ env s ρ H loc v' H' ξ ξ o ξ hs R F e hQ => by
 subst hs
 cases e
 have hk : ∀ b o, C.base.get? b = some o → s.heap.get? b = some o := R.keep
 refine wpAny_Name ?_ hd
 have T := o.T
 have hm := mg_none_of o.X T.g hn
 rw [PyProof.Rows.loadName_read F.kind hx]
 exact loadGlobal_builtin (by rw [F.glob]; exact T.g.keeps hk) hm (by rw [F.blt]; exact T.b.keeps hk) ((T.builtins x hnm).trans hb) (hQ ρ s.heap s.toks rv (.refl R) rfl)
theorem aM {l r : Expr} {op : Operator} {pos : Pos} {f g : EM V} {m : V → V → OM V} (hl : SimE C k sc l f) (hr : SimE C k sc r g) (ho : Op2 C k (binaryOp op) m) : SimE C k sc (.BinOp l op r pos) (e2 m f g) :=
 fun ξ env s ρ H loc v' H' ξ ξ o rm hs R F e hQ => by
  obtain ⟨a, H₁, ea, e⟩ := an e
  obtain ⟨b, H₂, eb, e⟩ := an e
  refine wpAny_BinOp (hl o rm hs R F ea fun ρ₁ h₁ tk₁ ra P₁ r₁ => hr o rm hs P₁.rep (F.post P₁) eb fun ρ₂ h₂ tk₂ rb P₂ r₂ => ho o rm P₂.rep (r₁.post P₂) r₂ e fun ρ₃ h₃ tk₃ rv P₃ r₃ => ?_)
  exact hQ ρ₃ h₃ tk₃ rv (P₁.transN (P₂.transN P₃)) r₃
theorem sim_cmp {l r : Expr} {op : CmpOp} {pos : Pos} {f g : EM V} {m : V → V → OM V} (hl : SimE C k sc l f) (hr : SimE C k sc r g) (ho : Op2 C k (compareOp op) m) (hm : behindInMarks op r = false) :
  SimE C k sc (.Compare l [op] [r] pos) (e2 m f g) :=
 fun ξ env s ρ H loc v' H' ξ ξ o rm hs R F e hQ => by
  obtain ⟨a, H₁, ea, e⟩ := an e
  obtain ⟨b, H₂, eb, e⟩ := an e
  refine wpAny_Compare1 (hl o rm hs R F ea fun ρ₁ h₁ tk₁ ra P₁ r₁ => hr o rm hs P₁.rep (F.post P₁) eb fun ρ₂ h₂ tk₂ rb P₂ r₂ => ho o rm P₂.rep (r₁.post P₂) r₂ e fun ρ₃ h₃ tk₃ rv P₃ r₃ => ?_) hm
  exact hQ ρ₃ h₃ tk₃ rv (P₁.transN (P₂.transN P₃)) r₃
theorem sim_cmpB {l r : Expr} {op : CmpOp} {pos : Pos} {f g : EM V} {m : V → V → OM V} (hl : SimE C k sc l f) (hr : SimE C k sc r g) (ho : Op2 C k (compareOp op) m) (hm : behindInMarks op r = false) :
  SimB C k sc (.Compare l [op] [r] pos) (bV (e2 m f g)) :=
 fun ξ env s ρ H loc v' H' ξ ξ o rm hs R F e hQ => by
  obtain ⟨u, H₃, e, e'⟩ := an e
  obtain ⟨a, H₁, ea, e⟩ := an e
  obtain ⟨b, H₂, eb, e⟩ := an e
  refine wpAny_isTrue_Compare1 (hl o rm hs R F ea fun ρ₁ h₁ tk₁ ra P₁ r₁ => hr o rm hs P₁.rep (F.post P₁) eb fun ρ₂ h₂ tk₂ rb P₂ r₂ => ho o rm P₂.rep (r₁.post P₂) r₂ e fun ρ₃ h₃ tk₃ rv P₃ r₃ => ?_) hm
  cases u with
  | bool c => cases e'; cases r₃; exact wpAny_truthy_bool (hQ ρ₃ h₃ tk₃ _ (P₁.transN (P₂.transN P₃)) rfl)
  | _ => cases e'
theorem a5 {t a b : Expr} {pos : Pos} {c : EM Bool} {f g : EM V} (ht : SimB C k sc t c) (ha : SimE C k sc a f) (hb : SimE C k sc b g) : SimE C k sc (.IfExp t a b pos) (eIf c f g) :=
 fun ξ env s ρ H loc v' H' ξ ξ o rm hs R F e hQ => by
  obtain ⟨u, H₁, e₁, e⟩ := an e
  show wpAny _ _ (isTrue t env (eval t env) >>= fun x => if x = true then eval a env else eval b env) _ _ _
  refine wpAny_bind (ht o rm hs R F e₁ fun ρ₁ h₁ tk₁ ra P₁ r₁ => ?_)
  subst r₁
  cases ra with
  | true => exact ha o rm hs P₁.rep (F.post P₁) e fun ρ₂ h₂ tk₂ rb P₂ r₂ => hQ ρ₂ h₂ tk₂ rb (P₁.transN P₂) r₂
  | false => exact hb o rm hs P₁.rep (F.post P₁) e fun ρ₂ h₂ tk₂ rb P₂ r₂ => hQ ρ₂ h₂ tk₂ rb (P₁.transN P₂) r₂
theorem sim_notB {x : Expr} {pos : Pos} {f : EM Bool} (h : SimB C k sc x f) : SimB C k sc (.UnaryOp .Not x pos) (bNot f) :=
 fun ξ env s ρ H loc v' H' ξ ξ o rm hs R F e hQ => by
  obtain ⟨u, H₁, e₁, e⟩ := an e
  cases e
  show wpAny _ _ (isTrue x env (eval x env) >>= fun b => pure (!b)) _ _ _
  exact wpAny_bind (h o rm hs R F e₁ fun ρ₁ h₁ tk₁ ra P₁ r₁ => wpAny_pure (hQ ρ₁ h₁ tk₁ _ P₁ (by rw [r₁])))
noncomputable abbrev SimA (C : Cx) (k : Nat) (sc : Scope) (op : BoolOp) (es : List Expr) (f : EM Bool) : Prop := Sim C k sc (fun env => allTrue op es env) (fun ξ ξ b c => c = b) f
theorem fK {op : BoolOp} : SimA C k sc op [] (eC (op == .And)) := fun ξ env s ρ H loc v' H' ξ ξ o rm hs R F e hQ => by
 cases e
 exact wpAny_pure (hQ ρ s.heap s.toks _ (.refl R) rfl)
theorem fL {x : Expr} {r : List Expr} {f g : EM Bool} (h : SimB C k sc x f) (h' : SimA C k sc .And r g) : SimA C k sc .And (x :: r) (bAnd f g) :=
 fun ξ env s ρ H loc v' H' ξ ξ o rm hs R F e hQ => by
  obtain ⟨u, H₁, e₁, e⟩ := an e
  refine wpAny_bind (h o rm hs R F e₁ fun ρ₁ h₁ tk₁ ra P₁ r₁ => ?_)
  subst r₁
  cases ra with
  | true => exact h' o rm hs P₁.rep (F.post P₁) e fun ρ₂ h₂ tk₂ rb P₂ r₂ => hQ ρ₂ h₂ tk₂ rb (P₁.transN P₂) r₂
  | false => cases e; exact wpAny_pure (hQ ρ₁ h₁ tk₁ _ P₁ rfl)
theorem g6 {x : Expr} {r : List Expr} {f g : EM Bool} (h : SimB C k sc x f) (h' : SimA C k sc .Or r g) : SimA C k sc .Or (x :: r) (bOr f g) :=
 fun ξ env s ρ H loc v' H' ξ ξ o rm hs R F e hQ => by
  obtain ⟨u, H₁, e₁, e⟩ := an e
  refine wpAny_bind (h o rm hs R F e₁ fun ρ₁ h₁ tk₁ ra P₁ r₁ => ?_)
  subst r₁
  cases ra with
  | false => exact h' o rm hs P₁.rep (F.post P₁) e fun ρ₂ h₂ tk₂ rb P₂ r₂ => hQ ρ₂ h₂ tk₂ rb (P₁.transN P₂) r₂
  | true => cases e; exact wpAny_pure (hQ ρ₁ h₁ tk₁ _ P₁ rfl)
theorem eU {op : BoolOp} {es : List Expr} {pos : Pos} {f : EM Bool} (h : SimA C k sc op es f) : SimB C k sc (.BoolOp op es pos) f := h
theorem nv : SimL C k sc [] lNil := ⟨rfl, fun ξ ξ env s ρ H loc v' H' ξ ξ o rm hs R F e hQ => by
 cases e
 exact spliced_nil (hQ ρ s.heap s.toks [] (.refl R) .nil)⟩
theorem qO {x : Expr} {r : List Expr} {f : EM V} {g : EM (List V)} (h : SimE C k sc x f) (h' : SimL C k sc r g) (hx : dU [x] = true) : SimL C k sc (x :: r) (ac f g) :=
 have hn : dU (x :: r) = true := Bool.and_eq_true_iff.mpr ⟨(Bool.and_eq_true_iff.mp hx).1, h'.star⟩
 ⟨hn, fun pos ξ env s ρ H loc v' H' ξ ξ o rm hs R F e hQ => by
  obtain ⟨u, H₁, e₁, e⟩ := an e
  obtain ⟨us, H₂, e₂, e⟩ := an e
  cases e
  dsimp only
  rw [lM hn]
  exact spliced_cons (h o rm hs R F e₁ fun ρ₁ h₁ tk₁ ra P₁ r₁ => h'.run pos o rm hs P₁.rep (F.post P₁) e₂ fun ρ₂ h₂ tk₂ rb P₂ r₂ => hQ ρ₂ h₂ tk₂ _ (P₁.transN P₂) (.cons (r₁.post P₂) r₂))⟩
end
noncomputable def i2 (f : Int → Int → Int) (ok : Int → Int → Bool) (a b : V) : OM V := match a, b with
 | .int i, .int j => if ok i j then rt (.int (f i j)) else cZ
 | _, _ => cZ
noncomputable def c2 (f : Int → Int → Bool) (a b : V) : OM V := match a, b with
 | .int i, .int j => rt (.bool (f i j))
 | _, _ => cZ
noncomputable def okAll (_ _ : Int) : Bool := true
noncomputable def qh (_ j : Int) : Bool := decide (-(2 ^ 62) < j) && decide (j < 2 ^ 62)
noncomputable def okMod (_ j : Int) : Bool := decide (j ≠ 0)
noncomputable def okDiv (_ j : Int) : Bool := decide (0 < j) && decide (j < 1000)
noncomputable def mSub := i2 (· - ·) okAll
noncomputable def mMul := i2 (· * ·) qh
noncomputable def mMod := i2 Int.fmod okMod
noncomputable def mDiv := i2 Int.fdiv okDiv
noncomputable def mLt := c2 fun a b => decide (a < b)
noncomputable def mLe := c2 fun a b => decide (a ≤ b)
noncomputable def mGt := c2 fun a b => decide (a > b)
noncomputable def mGe := c2 fun a b => decide (a ≥ b)
noncomputable def mNeg (a : V) : OM V := match a with
 | .int i => rt (.int (-i))
 | _ => cZ
noncomputable def mPow1018 (_ _ : V) : OM V := rt (.int (10 ^ 18))
theorem p3 {α : Type} {a b : α} {H H' : MH} (e : rt a H = some (b, H')) : b = a ∧ H' = H := by cases e; exact ⟨rfl, rfl⟩
theorem Rel.int_ {ρ : List Addr} {h : Heap} {i : Int} {v : Value} (x : Rel ρ h (.int i) v) : ∃ t, v = .int i t := x
theorem Rel.str_ {ρ : List Addr} {h : Heap} {i : Str} {v : Value} (x : Rel ρ h (.str i) v) : ∃ t, v = .str i t := x
theorem Rel.bool_ {ρ : List Addr} {h : Heap} {i : Bool} {v : Value} (x : Rel ρ h (.bool i) v) : v = .bool i := x
theorem Rel.none_ {ρ : List Addr} {h : Heap} {v : Value} (x : Rel ρ h .none v) : v = .none := x
theorem Rel.ref_ {ρ : List Addr} {h : Heap} {l : Nat} {v : Value} (x : Rel ρ h (.ref l) v) : ∃ a, v = .ref a ∧ ρ[l]? = some a := x
theorem Rel.raw_ {ρ : List Addr} {h : Heap} {u v : Value} (x : Rel ρ h (.raw u) v) : v = u := x
theorem Rel.tup_ {ρ : List Addr} {h : Heap} {l : List V} {v : Value} (x : Rel ρ h (.tup l) v) : ∃ a vs, v = .ref a ∧ TupAt h a vs ∧ RelL ρ h l vs := x
theorem Rel.int {ρ : List Addr} {h : Heap} {i : Int} {t : Tok} : Rel ρ h (.int i) (.int i t) := ⟨t, rfl⟩
theorem Rel.bool {ρ : List Addr} {h : Heap} {b : Bool} : Rel ρ h (.bool b) (.bool b) := rfl
theorem Rel.none {ρ : List Addr} {h : Heap} : Rel ρ h .none .none := rfl
theorem Rel.str {ρ : List Addr} {h : Heap} {x : Str} {t : Tok} : Rel ρ h (.str x) (.str x t) := ⟨t, rfl⟩
theorem Rel.ref {ρ : List Addr} {h : Heap} {l : Nat} {a : Addr} (e : ρ[l]? = some a) : Rel ρ h (.ref l) (.ref a) := ⟨a, rfl, e⟩
inductive I2R (f : Int → Int → Int) (ok : Int → Int → Bool) (a b v : V) (H H' : MH) : Prop where
 | mk (i j : Int) (h0 : a = .int i) (h1 : b = .int j) (h2 : ok i j = true) (h3 : v = .int (f i j)) (h4 : H' = H) : I2R f ok a b v H H'
inductive C2R (f : Int → Int → Bool) (a b v : V) (H H' : MH) : Prop where
 | mk (i j : Int) (h0 : a = .int i) (h1 : b = .int j) (h3 : v = .bool (f i j)) (h4 : H' = H) : C2R f a b v H H'
theorem i2_inv {f : Int → Int → Int} {ok : Int → Int → Bool} {a b v : V} {H H' : MH} (e : i2 f ok a b H = some (v, H')) : I2R f ok a b v H H' := by
 unfold i2 at e
 cases a with
 | int i =>
  cases b with
  | int j =>
   dsimp only at e
   cases h : ok i j with
   | true => rw [h] at e; cases e; exact ⟨i, j, rfl, rfl, h, rfl, rfl⟩
   | false => rw [h] at e; exact nul e
  | _ => exact nul e
 | _ => exact nul e
theorem c2_inv {f : Int → Int → Bool} {a b v : V} {H H' : MH} (e : c2 f a b H = some (v, H')) : C2R f a b v H H' := by
 unfold c2 at e
 cases a with
 | int i =>
  cases b with
  | int j => cases e; exact ⟨i, j, rfl, rfl, rfl, rfl⟩
  | _ => exact nul e
 | _ => exact nul e
section
variable {C : Cx} {k : Nat}
theorem ky {t : Value → Value → Sem Value} {f : Int → Int → Int} {ok : Int → Int → Bool}
  (h : ∀ (A : Around) (s : Shared) (i j : Int) (u w : Tok) (Q E : Value → Shared → Prop), ok i j = true → Q (.int (f i j) s.toks) { s with toks := s.toks + 1 } → wpAny C.M A (t (.int i u) (.int j w)) Q E s) : Op2 C k t (i2 f ok) :=
 fun A s ρ H a b ra rb v H' Q E o rm R r₁ r₂ e hQ => by
  obtain ⟨i, j, rfl, rfl, hok, rfl, rfl⟩ := i2_inv e
  obtain ⟨u, rfl⟩ := r₁.int_
  obtain ⟨w, rfl⟩ := r₂.int_
  exact h A s i j u w Q E hok (hQ ρ s.heap _ _ (.refl R) .int)
theorem mT {t : Value → Value → Sem Value} {f : Int → Int → Bool}
  (h : ∀ (A : Around) (s : Shared) (i j : Int) (u w : Tok) (Q E : Value → Shared → Prop), Q (.bool (f i j)) s → wpAny C.M A (t (.int i u) (.int j w)) Q E s) : Op2 C k t (c2 f) :=
 fun A s ρ H a b ra rb v H' Q E o rm R r₁ r₂ e hQ => by
  obtain ⟨i, j, rfl, rfl, rfl, rfl⟩ := c2_inv e
  obtain ⟨u, rfl⟩ := r₁.int_
  obtain ⟨w, rfl⟩ := r₂.int_
  exact h A s i j u w Q E (hQ ρ s.heap s.toks _ (.refl R) .bool)
theorem op_sub : Op2 C k (binaryOp .Sub) mSub := ky fun ξ ξ ξ ξ ξ ξ ξ ξ ξ h => P.sub_int h
theorem pc : Op2 C k (binaryOp .Mult) mMul := ky fun ξ ξ i j ξ ξ ξ ξ hok h => P.mul_int h (IntMulOk.of_right (intBits_le_64 (by
 unfold qh at hok; simp only [Bool.and_eq_true, decide_eq_true_eq] at hok; omega) (by unfold qh at hok; simp only [Bool.and_eq_true, decide_eq_true_eq] at hok; omega)))
theorem jp : Op2 C k (binaryOp .Mod) mMod := ky fun ξ ξ ξ ξ ξ ξ ξ ξ hok h => PyProof.Rows.mod_int' (of_decide_eq_true hok) h
theorem op_div : Op2 C k (binaryOp .FloorDiv) mDiv := ky fun ξ ξ i j ξ ξ ξ ξ hok h => by
 unfold okDiv at hok; simp only [Bool.and_eq_true, decide_eq_true_eq] at hok
 exact PyProof.Rows.floordiv_int (by omega) h (Or.inl (PyProof.noPylong_small (by omega)))
theorem ku : Op2 C k (compareOp .Lt) mLt := mT fun ξ ξ ξ ξ ξ ξ ξ ξ h => P.lt_int h
theorem op_le : Op2 C k (compareOp .LtE) mLe := mT fun ξ ξ ξ ξ ξ ξ ξ ξ h => P.le_int h
theorem op_gt : Op2 C k (compareOp .Gt) mGt := mT fun ξ ξ ξ ξ ξ ξ ξ ξ h => P.gt_int h
theorem op_ge : Op2 C k (compareOp .GtE) mGe := mT fun ξ ξ ξ ξ ξ ξ ξ ξ h => P.ge_int h
theorem op_neg : Op1 C k (unaryOp .USub) mNeg := fun A s ρ H a ra v H' Q E o rm R r₁ e hQ => by
 unfold mNeg at e
 split at e
 ·rename_i i
  cases e
  obtain ⟨u, rfl⟩ := r₁.int_
  exact P.neg_int (hQ ρ s.heap _ _ (.refl R) .int)
 ·exact nul e
theorem op_pow : ∀ (A : Around) (s : Shared) (u w : Tok) (Q E : Value → Shared → Prop), Q (.int (10 ^ 18) s.toks) { s with toks := s.toks + 1 } → wpAny C.M A (binaryOp .Pow (.int 10 u) (.int 18 w)) Q E s := fun A s u w Q E h =>
 AutoIntOps.pow_4 (by decide) (by decide) (by decide) (by decide) (by decide +kernel) h
end
noncomputable def Key.ok (k : Key) : Bool := k.data.canLay0
inductive Dt where
 | none
 | key (k : Key)
 | list (l : List Key)
 deriving DecidableEq
noncomputable def bz : List V → Option (List Key)
 | [] => some []
 | v :: r => match v.key?, bz r with
  | some k, some ks => if k.ok then some (k :: ks) else Option.none
  | _, _ => Option.none
noncomputable def gK (v : V) : Option Dt := match v.key? with
 | some k => if k.ok then some (.key k) else Option.none
 | Option.none => Option.none
noncomputable def mZ : Option MObj → Option Dt
 | some (.list vs) => (bz vs).map .list
 | _ => Option.none
noncomputable def V.dt (H : MH) : V → Option Dt
 | .none => some .none
 | .ref l => mZ H[l]?
 | .bool _ => Option.none
 | .raw _ => Option.none
 | .int i => gK (.int i)
 | .str i => gK (.str i)
 | .tup i => gK (.tup i)
noncomputable def Dt.data : Dt → PyData
 | .none => .none
 | .key k => k.data
 | .list l => .list (l.map Key.data)
noncomputable def consK (k : Option Key) (ks : Option (List Key)) : Option (List Key) := k.bind fun k => ks.bind fun ks => if k.ok then some (k :: ks) else Option.none
theorem jO {v : V} {r : List V} : bz (v :: r) = consK v.key? (bz r) := by
 show (match v.key?, bz r with
  | some k, some ks => if k.ok then some (k :: ks) else Option.none
  | _, _ => Option.none) = _
 cases v.key? with
 | none => rfl
 | some k => cases bz r <;> rfl
theorem pH {v : V} {r : List V} {ks : List Key} (h : bz (v :: r) = some ks) : ∃ k ks', v.key? = some k ∧ bz r = some ks' ∧ k.ok = true ∧ ks = k :: ks' := by
 rw [jO] at h
 obtain ⟨k, h1, h⟩ := Option.bind_eq_some_iff.mp h
 obtain ⟨ks', h2, h⟩ := Option.bind_eq_some_iff.mp h
 cases ho : k.ok with
 | true => rw [ho] at h; cases h; exact ⟨k, ks', h1, h2, ho, rfl⟩
 | false => rw [ho] at h; exact nul h
theorem eD {v : V} {r : List V} {k : Key} {ks : List Key} (h1 : v.key? = some k) (h2 : bz r = some ks) (ho : k.ok = true) : bz (v :: r) = some (k :: ks) := by
 rw [jO, h1, h2]
 exact if_pos ho
theorem h8 : ∀ {l : List V} {ks : List Key}, bz l = some ks → l = ks.map .ofKey ∧ ∀ k ∈ ks, k.ok = true
 | [], _, h => by cases h; exact ⟨rfl, fun ξ h => by cases h⟩
 | v :: r, ks, h => by
  obtain ⟨k, ks', h1, h2, hok, rfl⟩ := pH h
  obtain ⟨e, ho⟩ := h8 h2
  refine ⟨by rw [V.key?_eq h1, e]; rfl, fun x hx => ?_⟩
  rcases List.mem_cons.mp hx with rfl | hx
  ·exact hok
  ·exact ho x hx
theorem rD : ∀ {ks : List Key}, (∀ k ∈ ks, k.ok = true) → bz (ks.map .ofKey) = some ks
 | [], _ => rfl
 | k :: ks, h => by
  exact eD (V.key?_of k) (rD fun x hx => h x (.tail _ hx)) (h k (.head _))
theorem gW : ∀ {ks : List Key}, (∀ k ∈ ks, k.ok = true) → PyData.canLayAll0 (ks.map Key.data) = true
 | [], _ => rfl
 | k :: ks, h => by
  simp only [List.map_cons, PyData.canLayAll0, Bool.and_eq_true]
  exact ⟨h k (.head _), gW fun x hx => h x (.tail _ hx)⟩
theorem jS : ∀ l : List Prim, PyData.depthAll (l.map Prim.data) = 0
 | [] => rfl
 | p :: l => by
  simp only [List.map_cons, PyData.depthAll, jS l]
  cases p <;> rfl
theorem jE (k : Key) : k.data.depth ≤ 1 := by
 cases k with
 | p x => cases x <;> exact Nat.zero_le _
 | t l => simp only [Key.data, PyData.depth, jS]; omega
theorem lz : ∀ l : List Key, PyData.depthAll (l.map Key.data) ≤ 1
 | [] => Nat.zero_le _
 | k :: l => by
  have := jE k
  have := lz l
  simp only [List.map_cons, PyData.depthAll]; omega
theorem Dt.depth (d : Dt) : d.data.depth ≤ 2 := by
 cases d with
 | none => exact Nat.zero_le _
 | key k => exact Nat.le_trans (jE k) (by omega)
 | list l =>
  have := lz l
  show PyData.depthAll _ + 1 ≤ 2
  omega
theorem eqv_dt (a b : Dt) : PyData.eqv a.data b.data = decide (a = b) := by
 cases a with
 | none => cases b with
  | none => rfl
  | key k => cases k with
   | p x => cases x <;> rfl
   | t l => rfl
  | list l => rfl
 | key k => cases b with
  | none => cases k with
   | p x => cases x <;> rfl
   | t l => rfl
  | key k' => simp only [Dt.data, m7, Dt.key.injEq]
  | list l => cases k with
   | p x => cases x <;> simp [Dt.data, Key.data, Prim.data, PyData.eqv]
   | t l' => simp [Dt.data, Key.data, PyData.eqv]
 | list l => cases b with
  | none => rfl
  | key k => cases k with
   | p x => cases x <;> simp [Dt.data, Key.data, Prim.data, PyData.eqv]
   | t l' => simp [Dt.data, Key.data, PyData.eqv]
  | list l' => simp only [Dt.data, PyData.eqv, lq, Dt.list.injEq]
theorem V.dt_reads {C : Cx} {ρ : List Addr} {H : MH} {h : Heap} {v : V} {rv : Value} {d : Dt} (R : Rep C ρ H h) (r : Rel ρ h v rv) (e : v.dt H = some d) : d.data.canLay0 = true ∧ ∃ as, Reads h rv d.data as := by
 have key : gK v = some d → d.data.canLay0 = true ∧ ∃ as, Reads h rv d.data as := fun e => by
  unfold gK at e
  split at e
  ·rename_i k hk
   split at e
   ·rename_i ho
    cases e
    rw [V.key?_eq hk] at r
    exact ⟨ho, [], r.readsK⟩
   ·exact nul e
  ·exact nul e
 cases v with
 | none => cases e; cases r.none_; exact ⟨rfl, [], .none⟩
 | ref l =>
  change mZ H[l]? = some d at e
  cases hl : H[l]? with
  | none => rw [hl] at e; exact nul e
  | some m =>
   rw [hl] at e
   cases m with
   | list vs =>
    change (bz vs).map .list = some d at e
    obtain ⟨ks, hk, rfl⟩ := Option.map_eq_some_iff.mp e
    obtain ⟨rfl, hok⟩ := h8 hk
    obtain ⟨a, rfl, ha⟩ := r.ref_
    obtain ⟨vs', n, ho, rl⟩ := R.at' hl ha
    exact ⟨gW hok, [a], .list (as := []) ho rfl rfl rl.readsK⟩
   | _ => exact nul e
 | bool b => cases e
 | raw u => cases e
 | int i => exact key e
 | str i => exact key e
 | tup i => exact key e
noncomputable def mEqB (neg : Bool) (a b : V) : OM V := fun H => match a.dt H, b.dt H with
 | some x, some y => some (.bool (neg.xor (decide (x = y))), H)
 | _, _ => Option.none
noncomputable def mEq := mEqB false
noncomputable def mNe := mEqB true
section
variable {C : Cx} {k : Nat}
theorem om {neg : Bool} {a b v : V} {H H' : MH} (e : mEqB neg a b H = some (v, H')) : ∃ x y, a.dt H = some x ∧ b.dt H = some y ∧ v = .bool (neg.xor (decide (x = y))) ∧ H' = H := by
 unfold mEqB at e
 cases hx : a.dt H with
 | none => rw [hx] at e; exact nul e
 | some x =>
  rw [hx] at e
  cases hy : b.dt H with
  | none => rw [hy] at e; exact nul e
  | some y => rw [hy] at e; cases e; exact ⟨x, y, rfl, rfl, rfl, rfl⟩
theorem bD : Op2 C k (compareOp .Eq) mEq := fun A s ρ H a b ra rb v H' Q E o rm R r₁ r₂ e hQ => by
 obtain ⟨x, y, hx, hy, rfl, rfl⟩ := om e
 ·obtain ⟨l1, as, rd1⟩ := V.dt_reads R r₁ hx
  obtain ⟨l2, bs, rd2⟩ := V.dt_reads R r₂ hy
  refine SeqAt.compareEq_reads rd1 rd2 l1 l2 (by have := x.depth; have := rm.u0; have := rm.units; have : min x.data.depth y.data.depth ≤ x.data.depth := Nat.min_le_left _ _; omega) ?_
  rw [eqv_dt]
  exact hQ ρ s.heap s.toks _ (.refl R) (by simp only [Bool.false_xor]; exact .bool)
theorem fR : Op2 C k (compareOp .NotEq) mNe := fun A s ρ H a b ra rb v H' Q E o rm R r₁ r₂ e hQ => by
 obtain ⟨x, y, hx, hy, rfl, rfl⟩ := om e
 ·obtain ⟨l1, as, rd1⟩ := V.dt_reads R r₁ hx
  obtain ⟨l2, bs, rd2⟩ := V.dt_reads R r₂ hy
  refine SeqAt.compareNe_reads rd1 rd2 l1 l2 (by have := x.depth; have := rm.u0; have := rm.units; have : min x.data.depth y.data.depth ≤ x.data.depth := Nat.min_le_left _ _; omega) ?_
  rw [eqv_dt]
  exact hQ ρ s.heap s.toks _ (.refl R) (by simp only [Bool.true_xor]; exact .bool)
end
noncomputable def lim : Nat := 100000
theorem fj : lim ≤ 2 ^ 20 := by decide
theorem a6 : sizeLine = 2 ^ 24 := rfl
section
variable {C : Cx} {k : Nat} {ρ : List Addr} {H : MH} {h : Heap}
inductive ListR (ρ : List Addr) (h : Heap) (l : Nat) (xs : List V) (v : Value) : Prop where
 | mk (a : Addr) (vs : Array Value) (n : Nat) (h0 : v = .ref a) (h1 : ρ[l]? = some a) (h2 : h.get? a = some (dn vs n)) (h3 : RelL ρ h xs vs.toList) (h4 : vs.size = xs.length) : ListR ρ h l xs v
theorem bU (R : Rep C ρ H h) {l : Nat} {xs : List V} (e : H[l]? = some (.list xs)) {v : Value} (r : Rel ρ h (.ref l) v) :
  ListR ρ h l xs v := by
 obtain ⟨a, rfl, ha⟩ := r.ref_
 obtain ⟨vs, n, ho, rl⟩ := R.at' e ha
 exact ⟨a, vs, n, rfl, ha, ho, rl, by rw [← rl.length]; simp⟩
theorem oz (R : Rep C ρ H h) {l : Nat} {xs : List V} (e : H[l]? = some (.flist xs)) {v : Value} (r : Rel ρ h (.ref l) v) :
  ∃ a o vs n, v = .ref a ∧ ρ[l]? = some a ∧ h.get? a = some o ∧ o.cls = .type "list" ∧ o.data = .seq vs n ∧ RelL ρ h xs vs.toList ∧ vs.size = xs.length := by
 obtain ⟨a, rfl, ha⟩ := r.ref_
 obtain ⟨o, vs, n, ho, hc, hd, rl⟩ := R.at' e ha
 exact ⟨a, o, vs, n, rfl, ha, ho, hc, hd, rl, by rw [← rl.length]; simp⟩
theorem no_dict (R : Rep C ρ H h) {l : Nat} {a : Addr} {o : Obj} (ha : ρ[l]? = some a) (ho : h.get? a = some o) (hc : o.cls ≠ .type "dict" ∨ ∃ es n, o = dictOf es n ∧ ∃ ns, H[l]? = some (.ns ns)) : ∀ es n, H[l]? = some (.dict es n) → False := fun es n e => by
 rcases hc with hc | ⟨_, _, _, ns, e'⟩
 ·rcases R.at' e ha with ⟨kvs, ⟨o', es', ep, ho', hc', _⟩, _⟩ | ⟨xs, ⟨o', es', ep, ho', hc', _⟩, _⟩
  ·rw [ho] at ho'; cases ho'; exact hc hc'.1
  ·rw [ho] at ho'; cases ho'; exact hc hc'.1
 ·rw [e] at e'; cases e'
theorem i6 {ex : Addr → Prop} (R : Rep C ρ H h) {l : Nat} {a : Addr} {vs : Array Value} {n : Nat} {xs : List V} (f : Array Value → Array Value) (ha : ρ[l]? = some a) (ho : h.get? a = some (dn vs n)) {ys : List V} (hl : H[l]? = some (.list ys))
  (rl : RelL ρ h xs (f vs).toList) : Post C ρ H (H.set l (.list xs)) ex h (h.update a (Obj.mapSeq f)) ρ := by
 have hs : Heap.SameBut a h (h.update a (Obj.mapSeq f)) := Heap.SameBut.update ..
 have g : ∃ n', (h.update a (Obj.mapSeq f)).get? a = some (dn (f vs) n') := ⟨_, Heap.get?_update_self (Obj.mapSeq f) ho rfl⟩
 obtain ⟨n', g⟩ := g
 refine Post.set (m := .list xs) R ha hs ⟨f vs, n', g, rl.step (ex := fun b => b ∈ ρ) ⟨fun b o e c => (hs.2 b fun q => ?_).trans e, fun b o e n => (hs.2 b fun q => ?_).trans e⟩ ⟨[], by simp⟩⟩ (fun es n e => by rw [hl] at e; cases e) fun xs e => by rw [hl] at e; cases e
 ·subst q; rw [ho] at e; cases e; exact absurd c.1 (show Value.type "list" ≠ .type "tuple" by decide)
 ·subst q; exact n (List.mem_of_getElem? ha)
theorem i0 {ex : Addr → Prop} (R : Rep C ρ H h) {vs : Array Value} {xs : List V} (rl : RelL ρ h xs vs.toList) : Post C ρ H (H ++ [.list xs]) ex h (h.push (dn vs 0)) (ρ ++ [h.objs.size]) :=
 Post.alloc R (dn vs 0) (.list xs) fun h' e ρ'' => .inr ⟨vs, 0, Heap.get?_push_size _ rfl, rl.step (ex := no) (.keeps fun b o e => Heap.get?_push_of_some _ e) ⟨_, rfl⟩⟩
theorem d7 (R : Rep C ρ H h) : (ρ ++ [h.objs.size])[H.length]? = some h.objs.size := by
 rw [← R.len, List.getElem?_append_right (Nat.le_refl _)]; simp
theorem new_tup {ex : Addr → Prop} (R : Rep C ρ H h) (o : Obj) : Post C ρ H H ex h (h.push o) ρ := Post.keeps R (fun b x e => Heap.get?_push_of_some _ e) (cv h o)
end
noncomputable def am (f : EM (List V)) : EM V := fun loc => bnd (f loc) fun xs H => if xs.length ≤ lim then some (.ref H.length, H ++ [.list xs]) else Option.none
noncomputable def av (f : EM (List V)) : EM V := fun loc => bnd (f loc) fun xs H => if xs.length ≤ lim then some (.tup xs, H) else Option.none
section
variable {C : Cx} {k : Nat} {sc : Scope}
theorem al {es : List Expr} {pos : Pos} {f : EM (List V)} (hf : SimL C k sc es f) : SimE C k sc (.List es pos) (am f) := fun ξ env s ρ H loc v' H' ξ ξ o rm hs R F e hQ => by
 obtain ⟨xs, H₁, e₁, e⟩ := an e
 split at e
 ·rename_i hz
  cases e
  refine List_ (hf.run pos o rm hs R F e₁ fun ρ₁ h₁ tk₁ vs P₁ r₁ => ?_)
  refine wpAny_newObj_type ?_ (by show vs.toArray.size ≤ sizeLine; rw [List.size_toArray, r₁.length, a6]; have := fj; omega)
  exact hQ _ _ _ _ (P₁.transN (i0 P₁.rep (by simpa using r₁))) (.ref (d7 P₁.rep))
 ·exact nul e
theorem ao {es : List Expr} {n : Nat} {pos : Pos} {f : EM (List V)} (hf : SimL C k sc es f) : SimE C k sc (.Tuple es n pos) (av f) := fun ξ env s ρ H loc v' H' ξ ξ o rm hs R F e hQ => by
 obtain ⟨xs, H₁, e₁, e⟩ := an e
 split at e
 ·rename_i hz
  cases e
  refine Tuple_ (hf.run pos o rm hs R F e₁ fun ρ₁ h₁ tk₁ vs P₁ r₁ => ?_)
  refine wpAny_newObj_type ?_ (by show vs.toArray.size ≤ sizeLine; rw [List.size_toArray, r₁.length, a6]; have := fj; omega)
  have P := new_tup (ex := no) P₁.rep { cls := .type "tuple", data := .seq vs.toArray }
  refine hQ _ _ _ _ (P₁.transN P) ?_
  exact ⟨_, vs, rfl, ⟨_, vs.toArray, 0, Heap.get?_push_size _ rfl, rfl, rfl, by simp⟩, r₁.post P⟩
 ·exact nul e
end
noncomputable def mAddL (xs ys : List V) : OM V := fun H => if xs.length + ys.length ≤ lim then some (.ref H.length, H ++ [.list (xs ++ ys)]) else Option.none
noncomputable def dq (v : V) (f : Nat → List V → OM V) : OM V := fun H => match v with
 | .ref l => match H[l]? with
  | some (.list xs) => f l xs H
  | _ => Option.none
 | _ => Option.none
inductive AtL (v : V) (f : Nat → List V → OM V) (H : MH) (u : V) (H' : MH) : Prop where
 | mk (l : Nat) (xs : List V) (h0 : v = .ref l) (h1 : H[l]? = some (.list xs) ∧ f l xs H = some (u, H')) : AtL v f H u H'
theorem cT {v : V} {f : Nat → List V → OM V} {H H' : MH} {u : V} (e : dq v f H = some (u, H')) : AtL v f H u H' := by
 unfold dq at e
 cases v with
 | ref l =>
  dsimp only at e
  cases hl : H[l]? with
  | none => rw [hl] at e; exact nul e
  | some m =>
   rw [hl] at e
   cases m with
   | list xs => exact ⟨l, xs, rfl, hl, e⟩
   | _ => exact nul e
 | _ => exact nul e
theorem cY {l : Nat} {xs : List V} {f : Nat → List V → OM V} {H : MH} (e : H[l]? = some (.list xs)) : dq (.ref l) f H = f l xs H := by
 unfold dq
 dsimp only
 rw [e]
noncomputable def mAdd (a b : V) : OM V := match a with
 | .int _ => i2 (· + ·) okAll a b
 | _ => dq a fun ξ xs => dq b fun ξ ys => mAddL xs ys
noncomputable def kY (a b : V) : OM V := dq a fun ξ xs => match b with
 | .int i => fun H => if 0 ≤ i ∧ i ≤ 1000 ∧ xs.length ≤ 100 then some (.ref H.length, H ++ [.list (List.replicate i.toNat xs).flatten]) else Option.none
 | _ => cZ
noncomputable def eS : List V → OM V
 | [a, v] => dq a fun l xs H => if xs.length < lim then some (.none, H.set l (.list (xs ++ [v]))) else Option.none
 | _ => cZ
noncomputable def hZ : List V → OM V
 | [a, b] => dq a fun l xs => dq b fun ξ ys H => if xs.length + ys.length ≤ lim then some (.none, H.set l (.list (xs ++ ys))) else Option.none
 | _ => cZ
noncomputable def mPop : List V → OM V
 | [a] => dq a fun l xs H => match xs.getLast? with
  | some v => if xs.length ≤ lim then some (v, H.set l (.list xs.dropLast)) else Option.none
  | Option.none => Option.none
 | _ => cZ
section
variable {C : Cx} {k : Nat}
theorem cw : Op2 C k (binaryOp .Add) mAdd := fun A s ρ H a b ra rb v H' Q E o rm R r₁ r₂ e hQ => by
 have lst : dq a (fun ξ xs => dq b fun ξ ys => mAddL xs ys) H = some (v, H') → wpAny C.M A (binaryOp .Add ra rb) Q E s := fun e => by
  obtain ⟨l, xs, rfl, hl, e⟩ := cT e
  obtain ⟨l', ys, rfl, hl', e⟩ := cT e
  obtain ⟨a, vs, n, rfl, ha, ho, rl, hz⟩ := bU R hl r₁
  obtain ⟨b, us, n', rfl, hb, ho', rl', hz'⟩ := bU R hl' r₂
  unfold mAddL at e
  split at e
  ·rename_i hz
   cases e
   refine P.add_list ho ho' ?_ (by rw [a6]; have := fj; omega)
   exact hQ _ _ _ _ (i0 R (by simpa using rl.append rl')) (.ref (d7 R))
  ·exact nul e
 cases a with
 | int i => exact ky (fun ξ ξ ξ ξ ξ ξ ξ ξ ξ h => P.add_int h) o rm R r₁ r₂ e hQ
 | ref l => exact lst e
 | _ => exact nul e
theorem lj (xs : Array Value) : ∀ (k : Nat) (acc : Array Value), (List.foldl (fun x1 x2 => x1 ++ x2) acc (List.replicate k xs)).toList = acc.toList ++ (List.replicate k xs.toList).flatten
 | 0, acc => by simp
 | k + 1, acc => by rw [List.replicate_succ, List.foldl_cons, lj xs k]; simp [List.replicate_succ]
theorem ki {ρ : List Addr} {h : Heap} {xs : List V} {vs : List Value} (r : RelL ρ h xs vs) : ∀ k : Nat, RelL ρ h (List.replicate k xs).flatten (List.replicate k vs).flatten
 | 0 => .nil
 | k + 1 => by rw [List.replicate_succ, List.replicate_succ, List.flatten_cons, List.flatten_cons]; exact r.append (ki r k)
theorem p8 : Op2 C k (binaryOp .Mult) kY := fun A s ρ H a b ra rb v H' Q E o rm R r₁ r₂ e hQ => by
 obtain ⟨l, xs, rfl, hl, e⟩ := cT e
 obtain ⟨a, vs, n, rfl, ha, ho, rl, hz⟩ := bU R hl r₁
 cases b with
 | int i =>
  dsimp only at e
  split at e
  ·rename_i hc
   cases e
   obtain ⟨u, rfl⟩ := r₂.int_
   have hsz : vs.size * i.toNat ≤ 100 * 1000 := Nat.mul_le_mul (by omega) (by omega)
   refine wpAny_binaryOp_repeat_ref (T := "list") (U := "int") (by decide) ⟨_, ho, rfl⟩ (fun s' => typeIs_int s' i u) noFill_list_mul F.fills_int_mul F.slot_int_rmul repeat_list F.slot_int_index.lookup
    (call_meets F.slot_int_rmul (typeIs_int s i u) F.entry_int_rmul (F.args_int_rmul_2 _ _) (int___rmul___int_list i u a vs n)
     ⟨ho, rfl, ⟨_, ho, rfl⟩, call_meets F.slot_list_mul ⟨_, ho, rfl⟩ F.entry_list_mul (F.args_list_mul_2 _ _)
      (AutoListH.list___mul___list_int_3 a vs n i u (by simp [Builtin.List.listFitsIndex]; omega) (by omega) (by simp [Builtin.List.listTooLong, sizeLine]; omega))
      ⟨ho, ?_⟩⟩)
   refine hQ _ _ _ _ (i0 R ?_) (.ref (d7 R))
   rw [lj]
   by_cases hv : vs.isEmpty = true
   ·have h0 : vs.toList = [] := by simpa using hv
    rw [h0] at rl
    have hx : xs = [] := by have := rl.length; simpa using this.symm
    subst hx
    rw [h0]
    simpa using ki rl i.toNat
   ·rw [if_neg hv]
    simpa using ki rl i.toNat
  ·exact nul e
 | _ => exact nul e
theorem jq : OpL C k (fun vs => call (.builtin "list.append") vs) eS := fun A s ρ H l vs v H' Q E o rm R r e hQ => by
 match l, e with
 | [a, v], e =>
  unfold eS at e
  obtain ⟨l, xs, rfl, hl, e⟩ := cT e
  obtain ⟨u, us, rfl, r₁, r⟩ := r.uncons
  obtain ⟨w, ws, rfl, r₂, r⟩ := r.uncons
  cases r.unnil
  obtain ⟨a, vs, n, rfl, ha, ho, rl, hz⟩ := bU R hl r₁
  try dsimp only at e
  split at e
  ·rename_i hc
   cases e
   exact call_meets F.slot_list_append ⟨_, ho, rfl⟩ F.entry_list_append (F.args_list_append_2 _ _) (list_append a vs n w (by rw [a6]; have := fj; omega))
    ⟨ho, hQ _ _ _ _ (i6 R (fun x => x.push w) ha ho hl (by simpa using rl.append (.cons r₂ .nil))) .none⟩
  ·exact nul e
theorem lR : OpL C k (fun vs => call (.builtin "list.extend") vs) hZ := fun A s ρ H l vs v H' Q E o rm R r e hQ => by
 match l, e with
 | [a, v], e =>
  unfold hZ at e
  obtain ⟨l, xs, rfl, hl, e⟩ := cT e
  obtain ⟨l', ys, rfl, hl', e⟩ := cT e
  obtain ⟨u, us, rfl, r₁, r⟩ := r.uncons
  obtain ⟨w, ws, rfl, r₂, r⟩ := r.uncons
  cases r.unnil
  obtain ⟨a, vs, n, rfl, ha, ho, rl, hz⟩ := bU R hl r₁
  obtain ⟨b, us, n', rfl, hb, ho', rl', hz'⟩ := bU R hl' r₂
  try dsimp only at e
  split at e
  ·rename_i hc
   cases e
   have hl2 := fj
   exact call_meets F.slot_list_extend ⟨_, ho, rfl⟩ F.entry_list_extend (F.args_list_extend_2 _ _)
    (AutoSeq1.list_extend_list_list_0 a vs n b us n' (by simp [Builtin.List.listTooLong, sizeLine]; omega) (by rw [a6]; omega) (by rw [a6]; omega))
    ⟨ho, ho', hQ _ _ _ _ (i6 R (fun x => x ++ us) ha ho hl (by simpa using rl.append rl')) .none⟩
  ·exact nul e
theorem RelL.dropLast {ρ : List Addr} {h : Heap} {l : List V} {vs : List Value} (r : RelL ρ h l vs) {v : V} (e : l.getLast? = some v) : ∃ rv, vs.getLast? = some rv ∧ Rel ρ h v rv ∧ RelL ρ h l.dropLast vs.dropLast := by
 obtain ⟨l', rfl⟩ : ∃ l', l = l' ++ [v] := List.getLast?_eq_some_iff.mp e
 have key : ∀ (l' : List V) (vs : List Value), RelL ρ h (l' ++ [v]) vs → ∃ vs' rv, vs = vs' ++ [rv] ∧ RelL ρ h l' vs' ∧ Rel ρ h v rv := by
  intro l'
  induction l' with
  | nil =>
   intro vs r
   obtain ⟨u, us, rfl, r₁, r⟩ := r.uncons
   cases r.unnil
   exact ⟨[], u, rfl, .nil, r₁⟩
  | cons x l' ih =>
   intro vs r
   obtain ⟨u, us, rfl, r₁, r⟩ := r.uncons
   obtain ⟨vs', rv, rfl, a, b⟩ := ih us r
   exact ⟨u :: vs', rv, rfl, .cons r₁ a, b⟩
 obtain ⟨vs', rv, rfl, a, b⟩ := key l' vs r
 exact ⟨rv, by simp, b, by simpa using a⟩
theorem op_pop : OpL C k (fun vs => call (.builtin "list.pop") vs) mPop := fun A s ρ H l vs v H' Q E o rm R r e hQ => by
 match l, e with
 | [a], e =>
  unfold mPop at e
  obtain ⟨l, xs, rfl, hl, e⟩ := cT e
  obtain ⟨u, us, rfl, r₁, r⟩ := r.uncons
  cases r.unnil
  obtain ⟨a, vs, n, rfl, ha, ho, rl, hz⟩ := bU R hl r₁
  try dsimp only at e
  split at e
  ·rename_i y hy
   split at e
   ·rename_i hc
    cases e
    obtain ⟨ry, hry, ry1, rl'⟩ := rl.dropLast hy
    have hlast : vs[vs.size - 1]? = some ry := by
     rw [List.getLast?_eq_getElem?] at hry
     simpa using hry
    refine call_meets F.slot_list_pop ⟨_, ho, rfl⟩ F.entry_list_pop (F.args_list_pop_1 _) (MeetsSeq.list_pop_last a vs n ry hlast (by rw [a6]; have := fj; omega)) ⟨ho, ?_⟩
    have P := i6 (ex := no) R (fun xs => xs.eraseIdxIfInBounds (vs.size - 1)) ha ho hl (xs := xs.dropLast) (by
     have : (vs.eraseIdxIfInBounds (vs.size - 1)).toList = vs.toList.dropLast := by
      rw [Array.toList_eraseIdxIfInBounds, ← List.eraseIdx_length_sub_one, Array.length_toList]
     rw [this]; exact rl')
    exact hQ _ _ _ _ P (ry1.post P)
   ·exact nul e
  ·exact nul e
end
noncomputable def Key.isP : Key → Bool
 | .p _ => true
 | .t _ => false
noncomputable def dget (es : List (Key × V)) (k : Key) : Option V := (es.find? fun e => decide (e.1 = k)).map (·.2)
noncomputable def dput (es : List (Key × V)) (k : Key) (v : V) : List (Key × V) := if es.any (fun e => decide (e.1 = k)) then es.map (fun e => if e.1 = k then (e.1, v) else e) else es ++ [(k, v)]
noncomputable def allP (es : List (Key × V)) : Bool := es.all fun e => e.1.isP
noncomputable def allT (es : List (Key × V)) : Bool := es.all fun e => !e.1.isP
section
variable {C : Cx} {k : Nat} {ρ : List Addr} {H : MH} {h : Heap}
theorem entP_nil {es : List (Key × V)} {xs : List (List Prim × Addr × Value)} (a : All2 (EntT ρ h) es xs) (p : allP es = true) : es = [] ∧ xs = [] := by
 cases a with
 | nil => exact ⟨rfl, rfl⟩
 | cons e ξ =>
  unfold allP at p
  rw [List.all_cons, e.1] at p
  cases p
theorem entT_nil {es : List (Key × V)} {xs : List (Prim × Value)} (a : All2 (EntP ρ h) es xs) (p : allT es = true) : es = [] ∧ xs = [] := by
 cases a with
 | nil => exact ⟨rfl, rfl⟩
 | cons e ξ =>
  unfold allT at p
  rw [List.all_cons, e.1] at p
  cases p
theorem fG {a : Addr} {n : Nat} {es : List (Key × V)} (x : ObjAt C ρ h a (.dict es n)) (p : allP es = true) : ∃ kvs, h.DictOf C.pk a kvs ∧ All2 (EntP ρ h) es kvs := by
 rcases x with x | ⟨xs, ⟨o, es', ep, ho, hc, hd, he, _, _⟩, a2⟩
 ·exact x
 ·obtain ⟨rfl, rfl⟩ := entP_nil a2 p
  have he' : es' = #[] := by
   have : es'.toList = [] := he
   exact Array.toList_eq_nil_iff.mp this
  subst he'
  exact ⟨[], ⟨o, #[], ep, ho, hc, hd, fun ξ hx => by simp at hx, .nil, .nil⟩, .nil⟩
theorem pR {a : Addr} {n : Nat} {es : List (Key × V)} (x : ObjAt C ρ h a (.dict es n)) (p : allT es = true) : ∃ xs, h.DictOfH C.tk a xs ∧ All2 (EntT ρ h) es xs := by
 rcases x with ⟨kvs, ⟨o, es', ep, ho, hc, hd, _, hp, _⟩, a2⟩ | x
 ·obtain ⟨rfl, rfl⟩ := entT_nil a2 p
  have he' : es' = #[] := by
   have h1 := hp.length
   apply Array.eq_empty_of_size_eq_zero
   simpa using h1
  subst he'
  exact ⟨[], ⟨o, #[], ep, ho, hc, hd, rfl, fun ξ hx => by simp at hx, .nil⟩, .nil⟩
 ·exact x
theorem EntP.get {es : List (Key × V)} {kvs : List (Prim × Value)} (a : All2 (EntP ρ h) es kvs) (x : Prim) :
  (∀ v, dget es (.p x) = some v → ∃ rv, valueAt kvs x = some rv ∧ Rel ρ h v rv) ∧ (dget es (.p x) = none → valueAt kvs x = none) := by
 induction a with
 | nil => exact ⟨fun ξ e => (by cases e), fun ξ => rfl⟩
 | @cons e kv es kvs he _ ih =>
  obtain ⟨e1, e2⟩ := e
  obtain ⟨k1, k2⟩ := kv
  obtain ⟨rfl, r⟩ := he
  by_cases hx : k1 = x
  ·subst hx
   unfold dget valueAt
   simp only [List.find?_cons, decide_true, Option.map_some, Option.some.injEq]
   exact ⟨fun v q => ⟨k2, rfl, q ▸ r⟩, fun q => (by cases q)⟩
  ·have h1 : decide (Key.p k1 = Key.p x) = false := decide_eq_false fun q => hx (Key.p.inj q)
   have h2 : decide (k1 = x) = false := decide_eq_false hx
   unfold dget valueAt
   simp only [List.find?_cons, h1, h2]
   exact ih
theorem any_P {es : List (Key × V)} {kvs : List (Prim × Value)} (a : All2 (EntP ρ h) es kvs) (x : Prim) : es.any (fun e => decide (e.1 = Key.p x)) = kvs.any (fun kv => decide (kv.1 = x)) := by
 induction a with
 | nil => rfl
 | @cons e kv es kvs he _ ih => rw [List.any_cons, List.any_cons, ih, he.1]; simp [Key.p.injEq]
theorem EntP.map {x : Prim} {v : V} {rv : Value} (r : Rel ρ h v rv) {es : List (Key × V)} {kvs : List (Prim × Value)} (a : All2 (EntP ρ h) es kvs) :
  All2 (EntP ρ h) (es.map fun e => if e.1 = Key.p x then (e.1, v) else e) (kvs.map fun kv => if kv.1 = x then (kv.1, rv) else kv) := by
 induction a with
 | nil => exact .nil
 | @cons e kv es kvs he _ ih =>
  refine .cons ?_ ih
  dsimp only
  rw [he.1]
  by_cases hx : kv.1 = x
  ·rw [if_pos hx, if_pos (by rw [hx])]; exact ⟨rfl, r⟩
  ·rw [if_neg hx, if_neg fun q => hx (Key.p.inj q)]; exact he
theorem All2.snoc {α β : Type} {R : α → β → Prop} {l : List α} {m : List β} {a : α} {b : β} (x : All2 R l m) (y : R a b) : All2 R (l ++ [a]) (m ++ [b]) := by
 induction x with
 | nil => exact .cons y .nil
 | cons he ξ ih => exact .cons he ih
theorem EntP.put {es : List (Key × V)} {kvs : List (Prim × Value)} (a : All2 (EntP ρ h) es kvs) (x : Prim) {v : V} {rv : Value} (r : Rel ρ h v rv) : All2 (EntP ρ h) (dput es (.p x) v) (stored kvs x rv) := by
 unfold dput stored
 rw [any_P a x]
 split
 ·exact EntP.map r a
 ·exact a.snoc ⟨rfl, r⟩
theorem EntT.get {es : List (Key × V)} {xs : List (List Prim × Addr × Value)} (a : All2 (EntT ρ h) es xs) (x : List Prim) :
  (∀ v, dget es (.t x) = some v → ∃ p, atKey xs x = some p ∧ Rel ρ h v p.2) ∧ (dget es (.t x) = none → atKey xs x = none) := by
 induction a with
 | nil => exact ⟨fun ξ e => (by cases e), fun ξ => rfl⟩
 | @cons e kv es kvs he _ ih =>
  obtain ⟨e1, e2⟩ := e
  obtain ⟨k1, k2⟩ := kv
  obtain ⟨rfl, r⟩ := he
  by_cases hx : k1 = x
  ·subst hx
   simp only [dget, atKey, List.find?_cons, decide_true, Option.map_some, Option.some.injEq]
   exact ⟨fun v q => ⟨k2, rfl, q ▸ r⟩, fun q => (by cases q)⟩
  ·have h1 : decide (Key.t k1 = Key.t x) = false := decide_eq_false fun q => hx (Key.t.inj q)
   have h2 : decide (k1 = x) = false := decide_eq_false hx
   simp only [dget, atKey, List.find?_cons, h1, h2]
   exact ih
theorem rJ {es : List (Key × V)} {xs : List (List Prim × Addr × Value)} (a : All2 (EntT ρ h) es xs) (x : List Prim) : es.any (fun e => decide (e.1 = Key.t x)) = (atKey xs x).isSome := by
 induction a with
 | nil => rfl
 | @cons e kv es kvs he _ ih =>
  rw [List.any_cons, he.1]
  unfold atKey at ih ⊢
  rw [List.find?_cons]
  by_cases hx : kv.1 = x
  ·simp [hx]
  ·have h1 : decide (Key.t kv.1 = Key.t x) = false := decide_eq_false fun q => hx (Key.t.inj q)
   simp only [h1, Bool.false_or, decide_eq_false hx, ih]
theorem EntT.map {x : List Prim} {v : V} {rv : Value} (r : Rel ρ h v rv) {es : List (Key × V)} {xs : List (List Prim × Addr × Value)} (a : All2 (EntT ρ h) es xs) :
  All2 (EntT ρ h) (es.map fun e => if e.1 = Key.t x then (e.1, v) else e) (xs.map (putAt x rv)) := by
 induction a with
 | nil => exact .nil
 | @cons e kv es kvs he _ ih =>
  refine .cons ?_ ih
  dsimp only
  rw [he.1]
  unfold putAt
  by_cases hx : kv.1 = x
  ·rw [if_pos hx, if_pos (by rw [hx])]; exact ⟨rfl, r⟩
  ·rw [if_neg hx, if_neg fun q => hx (Key.t.inj q)]; exact he
theorem EntT.put {es : List (Key × V)} {xs : List (List Prim × Addr × Value)} (a : All2 (EntT ρ h) es xs) (x : List Prim) {c : Addr} {v : V} {rv : Value} (r : Rel ρ h v rv) : All2 (EntT ρ h) (dput es (.t x) v) (storedH xs x c rv) := by
 unfold dput storedH
 rw [rJ a x]
 split
 ·exact EntT.map r a
 ·exact a.snoc ⟨rfl, r⟩
noncomputable def IsD (H : MH) (l : Nat) (es : List (Key × V)) : Prop := ∃ n, H[l]? = some (.dict es n)
noncomputable def ni (H : MH) (l : Nat) : Nat := match H[l]? with
 | some (.dict _ n) => n
 | _ => 0
noncomputable def putD (H : MH) (l : Nat) (es : List (Key × V)) : MH := H.set l (.dict es (ni H l + 1))
inductive DictR (C : Cx) (ρ : List Addr) (h : Heap) (l : Nat) (es : List (Key × V)) (v : Value) : Prop where
 | mk (a : Addr) (h0 : v = .ref a) (h1 : ρ[l]? = some a) (h2 : ObjAt C ρ h a (.dict es 0)) : DictR C ρ h l es v
theorem cX (R : Rep C ρ H h) {l : Nat} {es : List (Key × V)} (e : IsD H l es) {v : Value} (r : Rel ρ h (.ref l) v) : DictR C ρ h l es v := by
 obtain ⟨a, rfl, ha⟩ := r.ref_
 obtain ⟨n, e⟩ := e
 have x : ObjAt C ρ h a (.dict es n) := R.at' e ha
 exact ⟨a, rfl, ha, x⟩
theorem ver_up (l : Nat) (es : List (Key × V)) : ∀ es₁ n, H[l]? = some (.dict es₁ n) → ∃ es' n', MObj.dict es (ni H l + 1) = .dict es' n' ∧ n < n' := fun es₁ n e => ⟨es, n + 1, by unfold ni; rw [e], Nat.lt_succ_self n⟩
theorem eR (o : C.Ok) (R : Rep C ρ H h) {l : Nat} {a : Addr} (ha : ρ[l]? = some a) : (a == sysModules) = false := beq_eq_false_iff_ne.mpr (R.off a (List.mem_of_getElem? ha)).2
theorem jD {ex : Addr → Prop} (R : Rep C ρ H h) {h' : Heap} {l : Nat} {a : Addr} {es : List (Key × V)} {kvs : List (Prim × Value)} (ha : ρ[l]? = some a) (hs : Heap.SameBut a h h') (hd : h'.DictOf C.pk a kvs) (a2 : All2 (EntP ρ h) es kvs) (hc : ∀ o, h.get? a = some o → ¬ gv o) {es₀ : List (Key × V)} (hl : IsD H l es₀) :
  Post C ρ H (putD H l es) ex h h' ρ := by
 have st : Step (fun b => b ∈ ρ) h h' := ⟨fun b o e c => (hs.2 b fun q => by subst q; exact hc o e c).trans e, fun b o e n => (hs.2 b fun q => by subst q; exact n (List.mem_of_getElem? ha)).trans e⟩
 exact Post.set R ha hs (.inl ⟨kvs, hd, a2.mono fun ξ ξ e => ⟨e.1, e.2.step st ⟨[], by simp⟩⟩⟩) (ver_up l es) fun xs e => by obtain ⟨n, hl⟩ := hl; rw [hl] at e; cases e
theorem mC {ex : Addr → Prop} (R : Rep C ρ H h) {h' : Heap} {l : Nat} {a : Addr} {es : List (Key × V)} {xs : List (List Prim × Addr × Value)} (ha : ρ[l]? = some a) (hs : Heap.SameBut a h h') (hd : h'.DictOfH C.tk a xs) (a2 : All2 (EntT ρ h) es xs) (hc : ∀ o, h.get? a = some o → ¬ gv o) {es₀ : List (Key × V)} (hl : IsD H l es₀) :
  Post C ρ H (putD H l es) ex h h' ρ := by
 have st : Step (fun b => b ∈ ρ) h h' := ⟨fun b o e c => (hs.2 b fun q => by subst q; exact hc o e c).trans e, fun b o e n => (hs.2 b fun q => by subst q; exact n (List.mem_of_getElem? ha)).trans e⟩
 exact Post.set R ha hs (.inr ⟨xs, hd, a2.mono fun ξ ξ e => ⟨e.1, e.2.step st ⟨[], by simp⟩⟩⟩) (ver_up l es) fun xs e => by obtain ⟨n, hl⟩ := hl; rw [hl] at e; cases e
theorem hY (R : Rep C ρ H h) {l : Nat} {a : Addr} (ha : ρ[l]? = some a) : ∀ o, h.get? a = some o → ¬ gv o := fun o ho => by
 obtain ⟨o', h1, h2⟩ := R.mem (List.mem_of_getElem? ha)
 rw [h1] at ho; cases ho; exact h2
end
noncomputable def fH (v : V) (f : Nat → List (Key × V) → OM V) : OM V := fun H => match v with
 | .ref l => match H[l]? with
  | some (.dict xs _) => f l xs H
  | _ => Option.none
 | _ => Option.none
inductive AtD (v : V) (f : Nat → List (Key × V) → OM V) (H : MH) (u : V) (H' : MH) : Prop where
 | mk (l : Nat) (xs : List (Key × V)) (h0 : v = .ref l) (h1 : IsD H l xs ∧ f l xs H = some (u, H')) : AtD v f H u H'
theorem d6 {v : V} {f : Nat → List (Key × V) → OM V} {H H' : MH} {u : V} (e : fH v f H = some (u, H')) : AtD v f H u H' := by
 unfold fH at e
 split at e
 ·rename_i l
  split at e
  ·rename_i xs n hl; exact ⟨l, xs, rfl, ⟨n, hl⟩, e⟩
  ·exact nul e
 ·exact nul e
theorem dC {l n : Nat} {es : List (Key × V)} {f : Nat → List (Key × V) → OM V} {H : MH} (e : H[l]? = some (.dict es n)) : fH (.ref l) f H = f l es H := by
 unfold fH
 dsimp only
 rw [e]
noncomputable def mGetP (d key : V) : OM V := fH d fun ξ es H => match key.prim? with
 | some p => if allP es then (dget es (.p p)).map fun v => (v, H) else Option.none
 | Option.none => Option.none
noncomputable def kZ (dflt : V) (d key : V) : OM V := fH d fun ξ es H => match key.prim? with
 | some p => if allP es then some ((dget es (.p p)).getD dflt, H) else Option.none
 | Option.none => Option.none
noncomputable def mGet : List V → OM V
 | [d, key] => kZ .none d key
 | [d, key, dflt] => kZ dflt d key
 | _ => cZ
noncomputable def d8 : List V → OM V
 | [d, key, dflt] => fH d fun l es H => match key.prim? with
  | some p => if allP es && decide (es.length ≤ lim) then (match dget es (.p p) with
   | some v => some (v, H)
   | Option.none => some (dflt, putD H l (dput es (.p p) dflt))) else Option.none
  | Option.none => Option.none
 | _ => cZ
noncomputable def fc (es : List (Key × V)) : Key → Bool
 | .p _ => allP es
 | .t _ => allT es
noncomputable def mIn (neg : Bool) (x d : V) : OM V := fun H => match d with
 | .ref l => match H[l]? with
  | some (.dict es _) => match x.key? with
   | some kx => if fc es kx then some (.bool (neg.xor (dget es kx).isSome), H) else Option.none
   | Option.none => Option.none
  | some (.list xs) => match x.key?, bz xs with
   | some kx, some ks => if kx.ok then some (.bool (neg.xor (ks.contains kx)), H) else Option.none
   | _, _ => Option.none
  | _ => Option.none
 | _ => Option.none
noncomputable def eB (d key v : V) : OM V := fH d fun l es H => match key.key? with
 | some kx => if fc es kx && decide (es.length ≤ lim) then some (.none, putD H l (dput es kx v)) else Option.none
 | Option.none => Option.none
@[reducible] noncomputable def KU (C : Cx) (ρ : List Addr) (H H' : MH) (s : Shared) (Q : Unit → Shared → Prop) : Prop := ∀ ρ' h' tk, Post C ρ H H' no s.heap h' ρ' → Q () (sw s h' tk)
noncomputable def Op3 (C : Cx) (k : Nat) (t : Value → Value → Value → Sem Unit) (m : V → V → V → OM V) : Prop :=
 ∀ ⦃A : Around⦄ ⦃s : Shared⦄ ⦃ρ : List Addr⦄ ⦃H : MH⦄ ⦃a b c : V⦄ ⦃ra rb rc : Value⦄ ⦃v : V⦄ ⦃H' : MH⦄ ⦃Q : Unit → Shared → Prop⦄ ⦃E : Value → Shared → Prop⦄, C.Ok → Room A k → Rep C ρ H s.heap → Rel ρ s.heap a ra → Rel ρ s.heap b rb → Rel ρ s.heap c rc →
  m a b c H = some (v, H') → KU C ρ H H' s Q → wpAny C.M A (t ra rb rc) Q E s
section
variable {C : Cx} {k : Nat}
theorem op_getP : Op2 C k getItem mGetP := fun A s ρ H a b ra rb v H' Q E o rm R r₁ r₂ e hQ => by
 obtain ⟨l, es, rfl, hl, e⟩ := d6 e
 try dsimp only at e
 split at e
 ·rename_i p hp
  split at e
  ·rename_i hc
   obtain ⟨u, hu, e⟩ := Option.map_eq_some_iff.mp e
   cases e
   obtain ⟨a, rfl, ha, ob⟩ := cX R hl r₁
   obtain ⟨kvs, hd, a2⟩ := fG ob hc
   rw [V.prim?_eq hp] at r₂
   obtain ⟨rv, h1, h2⟩ := (EntP.get a2 p).1 _ hu
   exact wpAny_getItem_of (Rel.ofPrim.mp r₂) hd.mapOf h1 (hQ ρ s.heap _ _ (.refl R) h2)
  ·exact nul e
 ·exact nul e
theorem ir : OpL C k (fun vs => call (.builtin "dict.get") vs) mGet := fun A s ρ H l vs v H' Q E o rm R r e hQ => by
 have key : ∀ (d key dflt : V) (rd rk rdf : Value), kZ dflt d key H = some (v, H') → Rel ρ s.heap d rd → Rel ρ s.heap key rk → Rel ρ s.heap dflt rdf →
   ∃ a p kvs, rd = .ref a ∧ (a == sysModules) = false ∧ Prim.isV p rk = true ∧ s.heap.DictOf C.pk a kvs ∧ H' = H ∧ Rel ρ s.heap v ((valueAt kvs p).getD rdf) := by
  intro d key dflt rd rk rdf e r₁ r₂ r₃
  obtain ⟨l, es, rfl, hl, e⟩ := d6 e
  try dsimp only at e
  split at e
  ·rename_i p hp
   split at e
   ·rename_i hc
    cases e
    obtain ⟨a, rfl, ha, ob⟩ := cX R hl r₁
    obtain ⟨kvs, hd, a2⟩ := fG ob hc
    rw [V.prim?_eq hp] at r₂
    refine ⟨a, p, kvs, rfl, eR o R ha, Rel.ofPrim.mp r₂, hd, rfl, ?_⟩
    cases hg : dget es (.p p) with
    | some u => obtain ⟨rv, h1, h2⟩ := (EntP.get a2 p).1 _ hg; rw [h1]; exact h2
    | none => rw [(EntP.get a2 p).2 hg]; exact r₃
   ·exact nul e
  ·exact nul e
 match l, e with
 | [d, x], e =>
  obtain ⟨u, us, rfl, r₁, r⟩ := r.uncons
  obtain ⟨w, ws, rfl, r₂, r⟩ := r.uncons
  cases r.unnil
  obtain ⟨a, p, kvs, rfl, hsys, hk, hd, rfl, r₄⟩ := key d x .none u w .none e r₁ r₂ .none
  exact call_meetsIn F.slot_dict_get hd.typeIs F.entry_dict_get (F.args_dict_get_2 _ _) (meets_dict_get C.pk a hk hsys) ⟨_, hd.mapOf, hQ ρ s.heap _ _ (.refl R) r₄⟩
 | [d, x, y], e =>
  obtain ⟨u, us, rfl, r₁, r⟩ := r.uncons
  obtain ⟨w, ws, rfl, r₂, r⟩ := r.uncons
  obtain ⟨z, zs, rfl, r₃, r⟩ := r.uncons
  cases r.unnil
  obtain ⟨a, p, kvs, rfl, hsys, hk, hd, rfl, r₄⟩ := key d x y u w z e r₁ r₂ r₃
  exact call_meetsIn F.slot_dict_get hd.typeIs F.entry_dict_get (F.args_dict_get_3 _ _ _) (meets_dict_get_default C.pk a hk hsys z) ⟨_, hd.mapOf, hQ ρ s.heap _ _ (.refl R) r₄⟩
theorem g9 : OpL C k (fun vs => call (.builtin "dict.setdefault") vs) d8 := fun A s ρ H l vs v H' Q E o rm R r e hQ => by
 match l, e with
 | [d, x, y], e =>
  unfold d8 at e
  obtain ⟨l, es, rfl, hl, e⟩ := d6 e
  obtain ⟨u, us, rfl, r₁, r⟩ := r.uncons
  obtain ⟨w, ws, rfl, r₂, r⟩ := r.uncons
  obtain ⟨z, zs, rfl, r₃, r⟩ := r.uncons
  cases r.unnil
  try dsimp only at e
  split at e
  ·rename_i p hp
   split at e
   ·rename_i hc
    simp only [Bool.and_eq_true, decide_eq_true_eq] at hc
    obtain ⟨a, rfl, ha, ob⟩ := cX R hl r₁
    obtain ⟨kvs, hd, a2⟩ := fG ob hc.1
    rw [V.prim?_eq hp] at r₂
    have hlen : kvs.length ≤ sizeLine := by rw [← a2.length, a6]; have := fj; omega
    refine call_meetsIn F.slot_dict_setdefault hd.typeIs F.entry_dict_setdefault (F.args_dict_setdefault_3 _ _ _) (kt_meets_setdefault C.pk a (Rel.ofPrim.mp r₂) (eR o R ha) z) ⟨kvs, hd, hlen, fun rv hv => ?_, fun hn h' hd' hs => ?_⟩
    ·split at e
     ·rename_i u hu
      cases e
      obtain ⟨rv', h1, h2⟩ := (EntP.get a2 p).1 _ hu
      rw [hv] at h1; cases h1
      exact hQ ρ s.heap _ _ (.refl R) h2
     ·rename_i hu
      rw [(EntP.get a2 p).2 hu] at hv; cases hv
    ·split at e
     ·rename_i u hu
      obtain ⟨rv', h1, h2⟩ := (EntP.get a2 p).1 _ hu
      rw [hn] at h1; cases h1
     ·cases e
      have P := jD (ex := no) R ha hs hd' (EntP.put a2 p r₃) (hY R ha) hl
      exact hQ _ _ _ _ P (r₃.post P)
   ·exact nul e
  ·exact nul e
theorem o8 : Op3 C (k + 1) setItem eB := fun A s ρ H a b c ra rb rc v H' Q E o rm R r₁ r₂ r₃ e hQ => by
 obtain ⟨l, es, rfl, hl, e⟩ := d6 e
 try dsimp only at e
 split at e
 ·rename_i kx hk
  split at e
  ·rename_i hc
   cases e
   simp only [Bool.and_eq_true, decide_eq_true_eq] at hc
   obtain ⟨a, rfl, ha, ob⟩ := cX R hl r₁
   rw [V.key?_eq hk] at r₂
   cases kx with
   | p p =>
    obtain ⟨kvs, hd, a2⟩ := fG ob hc.1
    have hlen : kvs.length ≤ sizeLine := by rw [← a2.length, a6]; have := fj; omega
    exact wpAny_setItem_pairs (hsz := hlen) (Rel.ofPrim.mp r₂) hd fun h' hd' hs => hQ _ _ _ (jD R ha hs hd' (EntP.put a2 p r₃) (hY R ha) hl)
   | t t =>
    obtain ⟨xs, hd, a2⟩ := pR ob hc.1
    have hlen : xs.length ≤ sizeLine := by rw [← a2.length, a6]; have := fj; omega
    obtain ⟨c, rfl, hkc⟩ := (Rel.tupKey (C := C)).mp r₂
    exact wpAny_setItem_heap (knd := C.tk) (hsz := hlen) (rm.in1.u0) hkc hd fun h' hd' hs => hQ _ _ _ (mC R ha hs hd' (EntT.put a2 t r₃) (hY R ha) hl)
  ·exact nul e
 ·exact nul e
theorem pN {M : Model} {A : Around} {E : Value → Shared → Prop} {s s' : Shared} {x y : Value} {b neg : Bool} {Q : Value → Shared → Prop} (h : ∀ Q' : Value → Shared → Prop, Q' (.bool b) s' → wpAny M A (compareOp .In x y) Q' E s)
  (hq : Q (.bool (neg.xor b)) s') : wpAny M A (compareOp (if neg then .NotIn else .In) x y) Q E s := by
 cases neg with
 | false => exact h Q (by simpa using hq)
 | true =>
  intro Γ p hΓ
  have z := h (fun v s'' => v = .bool b ∧ s'' = s') ⟨rfl, rfl⟩ Γ p hΓ
  change Sem.wp M Γ (contains y x >>= fun c => pure (Value.bool c)) _ _ _ _ at z
  show Sem.wp M Γ (contains y x >>= fun c => pure (Value.bool (!c))) _ _ _ _
  rw [Sem.wp_bind'] at z ⊢
  refine Sem.wp_mono M Γ _ (fun c p' s'' hc => ?_) (fun ξ ξ ξ e => e) _ _ z
  obtain ⟨e1, rfl⟩ := hc
  cases e1
  rw [Bool.true_xor] at hq
  exact hq
theorem mIn_inv {neg : Bool} {a b v : V} {H H' : MH} (e : mIn neg a b H = some (v, H')) : ∃ l kx, b = .ref l ∧ H' = H ∧ a.key? = some kx ∧
  ((∃ es n, H[l]? = some (.dict es n) ∧ fc es kx = true ∧ v = .bool (neg.xor (dget es kx).isSome)) ∨ ∃ xs ks, H[l]? = some (.list xs) ∧ bz xs = some ks ∧ kx.ok = true ∧ v = .bool (neg.xor (ks.contains kx))) := by
 unfold mIn at e
 cases b with
 | ref l =>
  dsimp only at e
  cases hl : H[l]? with
  | none => rw [hl] at e; exact nul e
  | some m =>
   rw [hl] at e
   cases m with
   | dict es n =>
    dsimp only at e
    cases hk : a.key? with
    | none => rw [hk] at e; exact nul e
    | some kx =>
     rw [hk] at e
     dsimp only at e
     cases ho : fc es kx with
     | true => rw [ho] at e; cases e; exact ⟨_, _, rfl, rfl, rfl, .inl ⟨_, _, hl, ho, rfl⟩⟩
     | false => rw [ho] at e; exact nul e
   | list xs =>
    dsimp only at e
    cases hk : a.key? with
    | none => rw [hk] at e; exact nul e
    | some kx =>
     rw [hk] at e
     cases hs : bz xs with
     | none => rw [hs] at e; exact nul e
     | some ks =>
      rw [hs] at e
      dsimp only at e
      cases ho : kx.ok with
      | true => rw [ho] at e; cases e; exact ⟨_, _, rfl, rfl, rfl, .inr ⟨_, _, hl, hs, ho, rfl⟩⟩
      | false => rw [ho] at e; exact nul e
   | _ => exact nul e
 | _ => exact nul e
section
variable {ρ : List Addr} {h : Heap} {kx : Key}
theorem Rel.key_inj (C : Cx) {a b : Key} {y : Value} (ra : Rel ρ h (.ofKey a) y) (rb : Rel ρ h (.ofKey b) y) : a = b := by
 have no : ∀ {p : Prim} {t : List Prim}, Rel ρ h (.ofKey (.p p)) y → Rel ρ h (.ofKey (.t t)) y → False := fun {p t} x z => by
  obtain ⟨c, rfl, ξ⟩ := (Rel.tupKey (C := C)).mp z
  have := Rel.ofPrim.mp x
  cases p <;> cases this
 cases a with
 | p pa => cases b with
  | p pb => exact congrArg Key.p (C.pk.inj y pa pb (Rel.ofPrim.mp ra) (Rel.ofPrim.mp rb))
  | t tb => exact (no ra rb).elim
 | t ta => cases b with
  | p pb => exact (no rb ra).elim
  | t tb =>
   obtain ⟨c, rfl, h1⟩ := (Rel.tupKey (C := C)).mp ra
   obtain ⟨c', e', h2⟩ := (Rel.tupKey (C := C)).mp rb
   cases e'
   exact congrArg Key.t (h1.inj h2)
open Classical in
noncomputable def isK (ρ : List Addr) (h : Heap) (kx : Key) (y : Value) : Bool := decide (Rel ρ h (.ofKey kx) y)
open Classical in
theorem isK_eq (C : Cx) {kk : Key} {y : Value} (r : Rel ρ h (.ofKey kk) y) : isK ρ h kx y = decide (kk = kx) := by
 unfold isK
 by_cases q : kk = kx
 ·subst q; exact (decide_eq_true r).trans (decide_eq_true rfl).symm
 ·exact (decide_eq_false fun r' => q (r.key_inj C r')).trans (decide_eq_false q).symm
theorem qo (C : Cx) : ∀ {ks : List Key} {vs : List Value}, RelL ρ h (ks.map .ofKey) vs → vs.any (isK ρ h kx) = ks.contains kx
 | [], vs, r => by cases r.unnil; rfl
 | q :: ks, vs, r => by
  obtain ⟨u, us, rfl, r1, r⟩ := r.uncons
  rw [List.any_cons, List.contains_cons, qo C r, isK_eq C r1]
  exact congrArg (· || _) (decide_eq_decide.mpr ⟨Eq.symm, Eq.symm⟩)
theorem nD : ∀ {ks : List Key} {vs : List Value} {y : Value}, RelL ρ h (ks.map .ofKey) vs → y ∈ vs → ∃ kk ∈ ks, Rel ρ h (.ofKey kk) y
 | [], vs, y, r, hy => by cases r.unnil; cases hy
 | q :: ks, vs, y, r, hy => by
  obtain ⟨u, us, rfl, r1, r⟩ := r.uncons
  rcases List.mem_cons.mp hy with rfl | hy
  ·exact ⟨q, .head _, r1⟩
  ·obtain ⟨kk, h1, h2⟩ := nD r hy; exact ⟨kk, .tail _ h1, h2⟩
end
section
variable {A : Around} {s : Shared} {ρ : List Addr} {H : MH} {ra : Value} {Q E : Value → Shared → Prop} {kx : Key} {neg : Bool} {a : Addr}
theorem in_dict (o : C.Ok) (rm : Room A (k + 2)) (R : Rep C ρ H s.heap) {es : List (Key × V)} (hsys : (a == sysModules) = false) (ob : ObjAt C ρ s.heap a (.dict es 0)) (hc : fc es kx = true) (r₁ : Rel ρ s.heap (.ofKey kx) ra)
  (hq : ∀ tk, Q (.bool (neg.xor (dget es kx).isSome)) { s with toks := tk }) : wpAny C.M A (compareOp (if neg then .NotIn else .In) ra (.ref a)) Q E s := by
 cases kx with
 | p p =>
  obtain ⟨kvs, hd, a2⟩ := fG ob hc
  have hsome : (valueAt kvs p).isSome = (dget es (.p p)).isSome := by
   cases hg : dget es (.p p) with
   | some u => obtain ⟨rv, h1, ξ⟩ := (EntP.get a2 p).1 _ hg; rw [h1]; rfl
   | none => rw [(EntP.get a2 p).2 hg]; rfl
  exact pN (fun Q' hq => wpAny_in_of (Rel.ofPrim.mp r₁) hsys hd.mapOf hq) (hsome ▸ hq _)
 | t t =>
  obtain ⟨xs, hd, a2⟩ := pR ob hc
  have hsome : (atKey xs t).isSome = (dget es (.t t)).isSome := by
   cases hg : dget es (.t t) with
   | some u => obtain ⟨rv, h1, ξ⟩ := (EntT.get a2 t).1 _ hg; rw [h1]; rfl
   | none => rw [(EntT.get a2 t).2 hg]; rfl
  obtain ⟨c, rfl, hkc⟩ := (Rel.tupKey (C := C)).mp r₁
  exact pN (fun Q' hq => wpAny_in_heap (knd := C.tk) (rm.in1.u0) hkc hsys hd hq) (hsome ▸ hq _)
theorem in_list (rm : Room A (k + 2)) {ol : Obj} {vs : Array Value} {n : Nat} {ks : List Key} (ho : s.heap.get? a = some ol) (hc : ol.cls = .type "list") (hd : ol.data = .seq vs n) (rl : RelL ρ s.heap (ks.map .ofKey) vs.toList) (hoks : ∀ kk ∈ ks, kk.ok = true) (hok : kx.ok = true)
  (r₁ : Rel ρ s.heap (.ofKey kx) ra) (hq : Q (.bool (neg.xor (ks.contains kx))) s) : wpAny C.M A (compareOp (if neg then .NotIn else .In) ra (.ref a)) Q E s := by
 have hEq : ∀ y, y ∈ vs → SeqAt.EqAt A.in1 s y ra (isK ρ s.heap kx y) := fun y hy => by
  obtain ⟨kk, hkk, rk⟩ := nD rl (Array.mem_toList_iff.mpr hy)
  rw [isK_eq C rk, ← m7]
  exact SeqAt.eqAt_reads kk.data kx.data A.in1 s y ra [] [] rk.readsK r₁.readsK (hoks kk hkk) hok (by
   have := jE kk; have := rm.in1.units
   have : min kk.data.depth kx.data.depth ≤ kk.data.depth := Nat.min_le_left _ _
   omega)
 have hany : vs.any (isK ρ s.heap kx) = ks.contains kx := (Array.any_toList).symm.trans (qo C rl)
 exact pN (fun Q' hq => SeqAt.in_listAt _ ⟨_, ho, hc, _, hd⟩ hEq hq) (hany ▸ hq)
end
theorem op_inG (neg : Bool) : Op2 C (k + 2) (compareOp (if neg then .NotIn else .In)) (mIn neg) := fun A s ρ H a b ra rb v H' Q E o rm R r₁ r₂ e hQ => by
 obtain ⟨l, kx, rfl, rfl, hk, ⟨es, n, hl, hc, rfl⟩ | ⟨xs, ks, hl, hks, hok, rfl⟩⟩ := mIn_inv e
 ·obtain ⟨a, rfl, ha, ob⟩ := cX R ⟨n, hl⟩ r₂
  exact in_dict o rm R (eR o R ha) ob hc (V.key?_eq hk ▸ r₁) fun tk => hQ ρ s.heap tk _ (.refl R) .bool
 ·obtain ⟨a, vs, n, rfl, ha, ho, rl, hz⟩ := bU R hl r₂
  obtain ⟨rfl, hoks⟩ := h8 hks
  exact in_list rm ho rfl rfl rl hoks hok (V.key?_eq hk ▸ r₁) (hQ ρ s.heap s.toks _ (.refl R) .bool)
theorem gD : Op2 C (k + 2) (compareOp .In) (mIn false) := op_inG false
theorem kr : Op2 C (k + 2) (compareOp .NotIn) (mIn true) := op_inG true
end
section
open Builtin Builtin.ObjectAttr Builtin.Getset_descriptor
noncomputable def nget (l : List (Str × V)) (x : Str) : Option V := match l with
 | [] => none
 | (y, v) :: r => if y = x then some v else nget r x
theorem rf {y x : Str} {v : V} {r : List (Str × V)} : nget ((y, v) :: r) x = if y = x then some v else nget r x := rfl
noncomputable def nput (l : List (Str × V)) (x : Str) (v : V) : List (Str × V) := match l with
 | [] => [(x, v)]
 | (y, u) :: r => if y = x then (y, v) :: r else (y, u) :: nput r x v
theorem md {y x : Str} {u v : V} {r : List (Str × V)} : nput ((y, u) :: r) x v = if y = x then (y, v) :: r else (y, u) :: nput r x v := rfl
section
variable {ρ : List Addr} {h : Heap}
theorem EntN.isStr {e : Str × V} {d : DictEntry} (x : EntN ρ h e d) (y : Str) : d.key.isStr y = decide (e.1 = y) := by
 obtain ⟨⟨t, ht⟩, ξ⟩ := x
 rw [ht]
 show (e.1 == y) = _
 by_cases q : e.1 = y
 ·rw [q]; simp
 ·rw [decide_eq_false q]; exact beq_eq_false_iff_ne.mpr q
theorem EntN.noRef {e : Str × V} {d : DictEntry} (x : EntN ρ h e d) : d.refKey = false := by
 obtain ⟨⟨t, ht⟩, ξ⟩ := x
 unfold DictEntry.refKey; rw [ht]
theorem All2.noRef {l : List (Str × V)} {es : List DictEntry} (a : All2 (EntN ρ h) l es) : es.any (·.refKey) = false := by
 induction a with
 | nil => rfl
 | cons he ξ ih => rw [List.any_cons, he.noRef, ih]; rfl
theorem EntN.get {l : List (Str × V)} {es : List DictEntry} (a : All2 (EntN ρ h) l es) (x : Str) :
  (∀ v, nget l x = some v → ∃ rv, getL x es = some (some rv) ∧ Rel ρ h v rv) ∧ (nget l x = none → getL x es = some none) := by
 have key : ∀ {l : List (Str × V)} {es : List DictEntry}, All2 (EntN ρ h) l es → (∀ v, nget l x = some v → ∃ d, es.find? (·.key.isStr x) = some d ∧ Rel ρ h v d.val) ∧ (nget l x = none → es.find? (·.key.isStr x) = none) := by
  intro l es a
  induction a with
  | nil => exact ⟨fun ξ e => (by cases e), fun ξ => rfl⟩
  | @cons e d l es he _ ih =>
   obtain ⟨y, u⟩ := e
   rw [List.find?_cons, he.isStr]
   rw [rf]
   by_cases q : y = x
   ·simp only [if_pos q, q, decide_true]
    exact ⟨fun v e => ⟨d, rfl, by cases e; exact he.2⟩, fun e => (by cases e)⟩
   ·simp only [if_neg q, decide_eq_false q]
    exact ih
 unfold getL
 refine ⟨fun v e => ?_, fun e => ?_⟩
 ·obtain ⟨d, h1, h2⟩ := (key a).1 v e
  rw [h1]; exact ⟨_, rfl, h2⟩
 ·rw [(key a).2 e]
  dsimp only
  rw [if_neg (by rw [a.noRef]; decide)]
theorem EntN.put {l : List (Str × V)} {es : List DictEntry} (a : All2 (EntN ρ h) l es) (x : Str) {v : V} {rv : Value} (r : Rel ρ h v rv) (hs : Int) (t : Tok) : All2 (EntN ρ h) (nput l x v) (putL x hs (.str x t) rv es) := by
 induction a with
 | nil => exact .cons ⟨⟨t, rfl⟩, r⟩ .nil
 | @cons e d l es he a ih =>
  obtain ⟨y, u⟩ := e
  rw [md]
  unfold putL
  rw [he.isStr]
  by_cases q : y = x
  ·rw [if_pos q, if_pos (decide_eq_true q)]
   exact .cons ⟨he.1, r⟩ a
  ·rw [if_neg q, if_neg (by simpa using q)]
   exact .cons he ih
theorem nput_len (l : List (Str × V)) (x : Str) (v : V) : (nput l x v).length ≤ l.length + 1 := by
 induction l with
 | nil => exact Nat.le_refl _
 | cons e r ih => rw [md]; split <;> simp only [List.length_cons] <;> omega
end
noncomputable def iG (K : Addr) (a : V) (f : Nat → List (Str × V) → OM V) : OM V := fun H => match a with
 | .ref l => match H[l]? with
  | some (.inst K' d) => if K' = K then (match H[d]? with
   | some (.ns ns) => f d ns H
   | _ => none) else none
  | _ => none
 | _ => none
inductive AtI (K : Addr) (a : V) (f : Nat → List (Str × V) → OM V) (H : MH) (u : V) (H' : MH) : Prop where
 | mk (l d : Nat) (ns : List (Str × V)) (h0 : a = .ref l) (h1 : H[l]? = some (.inst K d) ∧ H[d]? = some (.ns ns) ∧ f d ns H = some (u, H')) : AtI K a f H u H'
theorem iF {K : Addr} {a : V} {f : Nat → List (Str × V) → OM V} {H H' : MH} {u : V} (e : iG K a f H = some (u, H')) : AtI K a f H u H' := by
 unfold iG at e
 cases a with
 | ref l =>
  dsimp only at e
  cases hl : H[l]? with
  | none => rw [hl] at e; exact nul e
  | some m =>
   rw [hl] at e
   cases m with
   | inst K' d =>
    dsimp only at e
    by_cases hk : K' = K
    ·rw [if_pos hk] at e
     subst hk
     cases hd : H[d]? with
     | none => rw [hd] at e; exact nul e
     | some m =>
      rw [hd] at e
      cases m with
      | ns ns => exact ⟨l, d, ns, rfl, hl, hd, e⟩
      | _ => exact nul e
    ·rw [if_neg hk] at e; exact nul e
   | _ => exact nul e
 | _ => exact nul e
theorem jG {K : Addr} {l d : Nat} {ns : List (Str × V)} {f : Nat → List (Str × V) → OM V} {H : MH} (e1 : H[l]? = some (.inst K d)) (e2 : H[d]? = some (.ns ns)) : iG K (.ref l) f H = f d ns H := by
 unfold iG
 dsimp only
 rw [e1]
 dsimp only
 rw [if_pos rfl, e2]
noncomputable def V.isRaw : V → Bool
 | .raw _ => true
 | _ => false
noncomputable def aG (K : Addr) (name : Str) (a : V) : OM V := iG K a fun ξ ns H => match nget ns name with
 | some v => if v.isRaw then none else some (v, H)
 | none => none
noncomputable def fY (K : Addr) (name : Str) (a v : V) : OM V := iG K a fun d ns H => if ns.length ≤ 100 then some (.none, H.set d (.ns (nput ns name v))) else none
noncomputable def au (K : Addr) (name : Str) (a : V) : OM V := iG K a fun ξ ns H => match nget ns name with
 | some ξ => none
 | none => some (a, H)
structure AttrOk (C : Cx) (K : Addr) (name : Str) : Prop where
 plain : plainGet C.K K name = true
 has : hasDictIn C.K K = true
 find : ∃ attr, findIn C.K (.ref K) name = some attr ∧ noGet C.K attr = true
structure SetOk (C : Cx) (K : Addr) (name : Str) : Prop where
 set : findIn C.K (.ref K) "__setattr__" = some (some (.builtin "object.__setattr__"))
 over : plainOver C.K K = true
 taker : takerIn C.K K name = some none
 has : hasDictIn C.K K = true
section
variable {C : Cx} {k : Nat} {ρ : List Addr} {H : MH} {h : Heap}
theorem Rep.K (R : Rep C ρ H h) (o : C.Ok) : C.K.In h := fun a x e => R.keep a x (o.X a x e)
theorem m6 (R : Rep C ρ H h) {K : Addr} {l d : Nat} {ns : List (Str × V)} {v : Value} (r : Rel ρ h (.ref l) v) (e1 : H[l]? = some (.inst K d)) (e2 : H[d]? = some (.ns ns)) :
  ∃ x dx es n, v = .ref x ∧ ρ[l]? = some x ∧ ρ[d]? = some dx ∧ h.get? x = some (instObj K dx) ∧ h.get? dx = some (dictOf es n) ∧ All2 (EntN ρ h) ns es ∧ InstAt h x (instObj K dx) K (some (dictOf es n)) := by
 obtain ⟨x, rfl, hx⟩ := r.ref_
 obtain ⟨dx, h1, h2⟩ := R.at' e1 hx
 obtain ⟨es, n, h3, h4⟩ := R.at' e2 h2
 exact ⟨x, dx, es, n, rfl, hx, h2, h1, h3, h4, ⟨h1, rfl, rfl, h3⟩⟩
theorem Rel.handed {v : V} {rv : Value} (r : Rel ρ h v rv) (hv : v.isRaw = false) : handedIn rv = true := by
 cases v with
 | none => cases r.none_; rfl
 | bool b => cases r.bool_; rfl
 | int i => obtain ⟨t, rfl⟩ := r.int_; rfl
 | str i => obtain ⟨t, rfl⟩ := r.str_; rfl
 | tup l => obtain ⟨a, vs, rfl, ξ⟩ := r.tup_; rfl
 | ref l => obtain ⟨a, rfl, ξ⟩ := r.ref_; rfl
 | raw u => cases hv
theorem op_attr {K : Addr} {name : Str} (ok : AttrOk C K name) : Op1 C k (fun v => getAttr v name true) (aG K name) := fun A s ρ H a ra v H' Q E o rm R r₁ e hQ => by
 obtain ⟨l, d, ns, rfl, h1, h2, e⟩ := iF e
 obtain ⟨x, dx, es, n, rfl, hx, hd, g1, g2, a2, I⟩ := m6 R r₁ h1 h2
 split at e
 ·rename_i u hu
  split at e
  ·exact nul e
  ·rename_i hr
   cases e
   obtain ⟨rv, h3, h4⟩ := (EntN.get a2 name).1 _ hu
   obtain ⟨attr, fa, fn⟩ := ok.find
   exact get_value (R.K o) I (plainGet_of ok.plain).1 (findObj_own ok.has fa fn h3) (h4.handed (by simpa using hr)) (hQ ρ s.heap _ _ (.refl R) h4)
 ·exact nul e
theorem ns_set {ex : Addr → Prop} (R : Rep C ρ H h) {d : Nat} {dx : Addr} {ns : List (Str × V)} {es : List DictEntry} {n : Nat} (hd : ρ[d]? = some dx) (g : h.get? dx = some (dictOf es n)) (a2 : All2 (EntN ρ h) ns es) (name : Str) {v : V} {rv : Value} (r : Rel ρ h v rv) (hs : Int) (t : Tok)
  (hns : H[d]? = some (.ns ns)) : Post C ρ H (H.set d (.ns (nput ns name v))) ex h (h.update dx (Obj.putName name hs (.str name t) rv)) ρ := by
 have hsb : Heap.SameBut dx h (h.update dx (Obj.putName name hs (.str name t) rv)) := Heap.SameBut.update ..
 have st : Step (fun b => b ∈ ρ) h (h.update dx (Obj.putName name hs (.str name t) rv)) := ⟨fun b o e c => (hsb.2 b fun q => by subst q; exact hY R hd o e c).trans e, fun b o e n => (hsb.2 b fun q => by subst q; exact n (List.mem_of_getElem? hd)).trans e⟩
 have e := putName_dict name hs (.str name t) rv es n
 have g' : (h.update dx (Obj.putName name hs (.str name t) rv)).get? dx = some (dictOf (putL name hs (.str name t) rv es) (putN name es n)) := by
  rw [← e]
  first | exact Heap.get?_update_self _ g (by rw [e]; rfl) | (rw [Heap.get?_update_self _ g]; rw [e]; rfl)
 exact Post.set (m := .ns (nput ns name v)) R hd hsb ⟨_, _, g', (EntN.put a2 name r hs t).mono fun ξ ξ e => ⟨e.1, e.2.step st ⟨[], by simp⟩⟩⟩ (fun es n e => by rw [hns] at e; cases e) fun xs e => by rw [hns] at e; cases e
theorem nG (name : Str) (hs : Int) (key v : Value) : ∀ es : List DictEntry, (putL name hs key v es).length ≤ es.length + 1
 | [] => Nat.le_refl _
 | d :: r => by
  have := nG name hs key v r
  unfold putL
  split
  ·simp only [List.length_cons]; omega
  ·simp only [List.length_cons]; omega
theorem qC {A : Around} {s : Shared} {R : Result → Shared → Prop} {K x dx : Addr} {es : List DictEntry} {n : Nat} {name : Str} {tk : Tok} {v : Value} {b : Bool} (X : C.K.In s.heap) (has : hasDictIn C.K K = true)
  (hx : s.heap.get? x = some (instObj K dx)) (g : s.heap.get? dx = some (dictOf es n)) (nr : es.any (·.refKey) = false) (hz : es.length ≤ 200)
  (h : ∀ hs, R (.ok (.ret .none)) { s with heap := s.heap.update dx (Obj.putName name hs (.str name s.toks) v), toks := s.toks + 1 }) :
  wpAny C.M A.in1 (storeInOwnDict (.ref x) (.ref K) (.str name tk) name v b)
   (fun fin s' => match fin with | .done f => R (.ok f) s' | .again c' => c'.quiet = true ∧ codeAny C.M A c' R s') (fun e s' => R (.error e) s') s := by
 obtain ⟨cd, hc, hd⟩ := any_some has
 refine wpAny_bind (wpAny_pure (wpAny_bind (wpAny_bind (wpAny_loadPart hx (wpAny_bind ((looks_clsIn X hc).here ?_))))))
 rw [hd]
 refine wpAny_pure (a := some dx) (wpAny_bind (wpAny_pure (wpAny_bind ?_)))
 unfold nsSet
 refine wpAny_bind (wpAny_bind (wpAny_askSetting (wpAny_pure (wpAny_bind (wpAny_mkText (wpAny_bind (wpAny_loadPart g ?_)))))))
 dsimp only
 have c : (!es.toArray.any (·.key.isStr name) && es.toArray.any (·.refKey)) = false := by
  have q : (es.toArray.any fun x => x.refKey) = false := by simpa using nr
  rw [q, Bool.and_false]
 rw [aRefKeyMayBeTheName_at, c]
 refine wpAny_updatePart g ?_
 generalize hhs : (if name.cps.isEmpty = true then (0 : Int) else reduceHash _) = hs
 have e := putName_dict name hs (.str name s.toks) v es n
 have len : (putL name hs (.str name s.toks) v es).length ≤ es.length + 1 := by
  exact nG _ _ _ _ _
 have g' : (s.heap.update dx (Obj.putName name hs (.str name s.toks) v)).get? dx = some (dictOf (putL name hs (.str name s.toks) v es) (putN name es n)) := by
  rw [← e]
  first | exact Heap.get?_update_self _ g (by rw [e]; rfl) | (rw [Heap.get?_update_self _ g]; rw [e]; rfl)
 refine wpAny_bind (wpAny_lookBehind g' (pastItsLine_dict (by rw [List.size_toArray, sizeLine_eq]; omega)) ?_)
 exact wpAny_pure (h hs)
theorem o9 {K : Addr} {name : Str} (ok : SetOk C K name) {A : Around} {s : Shared} {a c : V} {ra rc : Value} {v : V} {H' : MH} {Q : Unit → Shared → Prop} {E : Value → Shared → Prop} (o : C.Ok) (R : Rep C ρ H s.heap) (r₁ : Rel ρ s.heap a ra) (r₂ : Rel ρ s.heap c rc)
  (e : fY K name a c H = some (v, H')) (hQ : ∀ h' tk, Post C ρ H H' no s.heap h' ρ → Q () (sw s h' tk)) : wpAny C.M A (setAttr ra name rc) Q E s := by
 obtain ⟨l, d, ns, rfl, h1, h2, e⟩ := iF e
 obtain ⟨x, dx, es, n, rfl, hx, hd, g1, g2, a2, I⟩ := m6 R r₁ h1 h2
 split at e
 ·rename_i hl
  cases e
  have hlen := a2.length
  refine set_plain (R.K o) I ok.set (osa_open (s := { s with toks := s.toks + 1 }) (R.K o) I ok.over ok.taker fun b => ?_)
  refine qC (R := fun r s' => match r with | .ok (.ret _) => Q () s' | .ok _ => False | .error e => E e s') (s := { s with toks := s.toks + 1 }) (R.K o) ok.has g1 g2 a2.noRef (by omega) fun hs => ?_
  exact hQ _ _ (ns_set R hd g2 a2 name r₂ hs _ h2)
 ·exact nul e
end
end
noncomputable def ah (a b : V) : OM V := fun H => match a, b with
 | .tup xs, .int i => if 0 ≤ i ∧ i < 1000000 then (xs[i.toNat]?).map fun v => (v, H) else none
 | .ref l, b => match H[l]? with
  | some (.list xs) => match b with
   | .int i => if 0 ≤ i ∧ i < 1000000 then (xs[i.toNat]?).map fun v => (v, H) else none
   | _ => none
  | some (.flist xs) => match b with
   | .int i => if 0 ≤ i ∧ i < 1000000 then (xs[i.toNat]?).map fun v => (v, H) else none
   | _ => none
  | some (.dict _ _) => mGetP a b H
  | _ => none
 | _, _ => none
section
variable {C : Cx} {k : Nat} {sc : Scope}
theorem ay {value : Expr} {name : Str} {pos : Pos} {f : EM V} {K : Addr} (hv : SimE C k sc value f) (ok : AttrOk C K name)
  (he : ∀ env, eval (.Attribute value name pos) env = (do
   let o ← eval value env
   standAt pos.atName
   let r ← holding [o] (getAttr o name true)
   letTemporaryGo value o r
   pure r)) : SimE C k sc (.Attribute value name pos) (e1 (aG K name) f) := fun ξ env s ρ H loc v' H' ξ ξ o rm hs R F e hQ => by
 obtain ⟨a, H₁, ea, e⟩ := an e
 refine Attribute_any_ (hv o rm hs R F ea fun ρ₁ h₁ tk₁ ra P₁ r₁ => op_attr ok o rm P₁.rep r₁ e fun ρ₂ h₂ tk₂ rv P₂ r₂ => ?_) (he env)
 exact hQ ρ₂ h₂ tk₂ rv (P₁.transN P₂) r₂
theorem h9 {A : Around} {E : Value → Shared → Prop} {s : Shared} {value slice : Expr} {o i : Value} {T id : String} {Q : Value → Shared → Prop} (hT : s.TypeIs o T)
  (hl : typeLookup (.type T) "__getitem__" = pure (some (.builtin id))) (h : wpAny C.M A (getItem o i) Q E s) (hs : subscripted slice false o i = operate [o, i] (getItem o i)) :
  wpAny C.M A (subscriptTail value slice o i) Q E s := by
 unfold subscriptTail
 refine wpAny_bind ?_
 rw [getitemInPython_of_ne hT.not_modules]
 refine wpAny_bind (wpAny_specialOf hT hl ?_)
 have fin : wpAny C.M A (subscripted slice false o i) (fun r s₃ => wpAny C.M A (letTemporaryGo value o r >>= fun ξ => pure r) Q E s₃) E s := by
  rw [hs]
  exact wpAny_operating (wpAny_mono h (fun r s₃ h₃ => wpAny_bind (wpAny_letTemporaryGo (wpAny_pure h₃))) fun ξ ξ x => x)
 first
  | exact wpAny_pure (wpAny_bind fin)
  | exact wpAny_bind (wpAny_pure (wpAny_bind fin))
  | exact wpAny_bind fin
theorem op_item {value slice : Expr} (hs : ∀ o i, subscripted slice false o i = operate [o, i] (getItem o i)) : Op2 C k (subscriptTail value slice) ah := fun A s ρ H a b ra rb v H' Q E o rm R r₁ r₂ e hQ => by
 unfold ah at e
 cases a with
 | tup xs =>
  cases b with
  | int i =>
   dsimp only at e
   split at e
   ·rename_i hc
    obtain ⟨u, hu, e⟩ := Option.map_eq_some_iff.mp e
    cases e
    obtain ⟨t, rfl⟩ := r₂.int_
    obtain ⟨a, vs, rfl, ⟨o', items, n, ho, hcl, hd, rfl⟩, rl⟩ := r₁.tup_
    obtain ⟨rv, h1, h2⟩ := rl.get hu
    have ht : IsTup s.heap a items := ⟨o', ho, hcl, n, hd⟩
    have hlt : i.toNat < items.size := by
     have := (List.getElem?_eq_some_iff.mp h1).1
     simpa using this
    exact h9 ⟨_, ho, hcl⟩ slot_tuple_getitem.lookup (getItem_tuple ht (by omega) (by omega) (seqIndex_of hc.1 (by omega)) (by simpa using h1) (hQ ρ s.heap s.toks _ (.refl R) h2)) (hs _ _)
   ·exact nul e
  | _ => exact nul e
 | ref l =>
  dsimp only at e
  cases hl : H[l]? with
  | none => rw [hl] at e; exact nul e
  | some m =>
   rw [hl] at e
   cases m with
   | list xs =>
    cases b with
    | int i =>
     dsimp only at e
     split at e
     ·rename_i hc
      obtain ⟨u, hu, e⟩ := Option.map_eq_some_iff.mp e
      cases e
      obtain ⟨t, rfl⟩ := r₂.int_
      obtain ⟨a, vs, n, rfl, ha, ho, rl, hz⟩ := bU R hl r₁
      obtain ⟨rv, h1, h2⟩ := rl.get hu
      exact h9 ⟨_, ho, rfl⟩ slot_list_getitem.lookup (wpAny_getItem_list ⟨_, ho, rfl, _, rfl⟩ hc.1 (by omega) (by simpa using h1) (hQ ρ s.heap s.toks _ (.refl R) h2)) (hs _ _)
     ·exact nul e
    | _ => exact nul e
   | flist xs =>
    cases b with
    | int i =>
     dsimp only at e
     split at e
     ·rename_i hc
      obtain ⟨u, hu, e⟩ := Option.map_eq_some_iff.mp e
      cases e
      obtain ⟨t, rfl⟩ := r₂.int_
      obtain ⟨a, ob, vs, n, rfl, ha, ho, hcl, hdt, rl, hz⟩ := oz R hl r₁
      obtain ⟨rv, h1, h2⟩ := rl.get hu
      exact h9 ⟨_, ho, hcl⟩ slot_list_getitem.lookup (wpAny_getItem_list ⟨_, ho, hcl, _, hdt⟩ hc.1 (by omega) (by simpa using h1) (hQ ρ s.heap s.toks _ (.refl R) h2)) (hs _ _)
     ·exact nul e
    | _ => exact nul e
   | dict es n =>
    dsimp only at e
    have T : ∃ a, ra = .ref a ∧ s.TypeIs (.ref a) "dict" := by
     obtain ⟨a, rfl, ha, ob⟩ := cX R ⟨n, hl⟩ r₁
     refine ⟨a, rfl, ?_⟩
     rcases ob with ⟨kvs, hd, _⟩ | ⟨xs, hd, _⟩
     ·exact hd.typeIs
     ·exact hd.typeIs
    obtain ⟨a, rfl, T⟩ := T
    exact h9 T slot_dict_getitem.lookup (op_getP o rm R r₁ r₂ e hQ) (hs _ _)
   | _ => exact nul e
 | _ => exact nul e
theorem sim_item {value slice : Expr} {pos : Pos} {f g : EM V} (hv : SimE C k sc value f) (hi : SimE C k sc slice g) (hs : ∀ o i, subscripted slice false o i = operate [o, i] (getItem o i)) :
  SimE C k sc (.Subscript value slice pos) (e2 ah f g) := fun ξ env s ρ H loc v' H' ξ ξ o rm hsc R F e hQ => by
 obtain ⟨a, H₁, ea, e⟩ := an e
 obtain ⟨b, H₂, eb, e⟩ := an e
 refine Subscript_ (hv o rm hsc R F ea fun ρ₁ h₁ tk₁ ra P₁ r₁ => hi o rm hsc P₁.rep (F.post P₁) eb fun ρ₂ h₂ tk₂ rb P₂ r₂ => op_item hs o rm P₂.rep (r₁.post P₂) r₂ e fun ρ₃ h₃ tk₃ rv P₃ r₃ => ?_)
 exact hQ ρ₃ h₃ tk₃ rv (P₁.transN (P₂.transN P₃)) r₃
theorem df {x : Expr} {pos : Pos} {f : EM V} (h : SimE C k sc x f) : SimE C k sc (.UnaryOp .USub x pos) (e1 mNeg f) := fun ξ env s ρ H loc v' H' ξ ξ o rm hs R F e hQ => by
 obtain ⟨a, H₁, ea, e⟩ := an e
 show wpAny _ _ (eval x env >>= fun v => standAt pos >>= fun ξ => holding [v] (unaryOp .USub v)) _ _ _
 exact wpAny_bind (h o rm hs R F ea fun ρ₁ h₁ tk₁ ra P₁ r₁ => wpAny_bind (wpAny_standAt (wpAny_holding (op_neg o rm P₁.rep r₁ e fun ρ₂ h₂ tk₂ rv P₂ r₂ => hQ ρ₂ h₂ tk₂ rv (P₁.transN P₂) r₂))))
theorem sim_pow {p q r : Pos} {n n' : Nat} : SimE C k sc (.BinOp (.Constant (.int 10) n p) .Pow (.Constant (.int 18) n' q) r) (eC (.int (10 ^ 18))) := fun ξ env s ρ H loc v' H' ξ ξ o rm hs R F e hQ => by
 cases e
 exact wpAny_BinOp (wpAny_Constant_int (wpAny_Constant_int (op_pow _ _ _ _ _ _ (hQ ρ s.heap _ _ (.refl R) .int))))
theorem oS {x : Expr} {f : EM V} (h : SimE C k sc x f) (he : ∀ env, isTrue x env (eval x env) = (do let v ← eval x env; standAt x.pos; holding [v] (truthy v))) : SimB C k sc x (bV f) := fun ξ env s ρ H loc v' H' ξ ξ o rm hs R F e hQ => by
 obtain ⟨a, H₁, ea, e⟩ := an e
 dsimp only
 rw [he]
 refine wpAny_bind (h o rm hs R F ea fun ρ₁ h₁ tk₁ ra P₁ r₁ => wpAny_bind (wpAny_standAt (wpAny_holding ?_)))
 cases a with
 | bool b => cases e; cases r₁.bool_; exact wpAny_truthy_bool (hQ ρ₁ h₁ tk₁ _ P₁ rfl)
 | _ => exact nul e
noncomputable def nc (m m' : V → V → OM V) (f g g' : EM V) : EM Bool := fun loc => bnd (f loc) fun a => bnd (g loc) fun b => bnd (m a b) fun c => match c with
 | .bool true => bnd (g' loc) fun d => bnd (m' b d) fun z => match z with
  | .bool t => rt t
  | _ => cZ
 | .bool false => rt false
 | _ => cZ
theorem j7 {l r r' : Expr} {op op' : CmpOp} {pos : Pos} {f g g' : EM V} {m m' : V → V → OM V} (hl : SimE C k sc l f) (hr : SimE C k sc r g) (hr' : SimE C k sc r' g') (ho : Op2 C k (compareOp op) m) (ho' : Op2 C k (compareOp op') m')
  (he : ∀ env, isTrue (.Compare l [op, op'] [r, r'] pos) env (eval (.Compare l [op, op'] [r, r'] pos) env) = (do testChain pos (← eval l env) [op, op'] [eval r env, eval r' env])) : SimB C k sc (.Compare l [op, op'] [r, r'] pos) (nc m m' f g g') :=
 fun ξ env s ρ H loc v' H' ξ ξ o rm hs R F e hQ => by
  obtain ⟨a, H₁, ea, e⟩ := an e
  obtain ⟨b, H₂, eb, e⟩ := an e
  obtain ⟨c, H₃, ec, e⟩ := an e
  dsimp only
  rw [he]
  refine wpAny_bind (hl o rm hs R F ea fun ρ₁ h₁ tk₁ ra P₁ r₁ => ?_)
  refine wpAny_bind (m := holding [ra] (eval r env)) (wpAny_holding (hr o rm hs P₁.rep (F.post P₁) eb fun ρ₂ h₂ tk₂ rb P₂ r₂ => wpAny_bind (wpAny_standAt (wpAny_bind (wpAny_holding (ho o rm P₂.rep (r₁.post P₂) r₂ ec fun ρ₃ h₃ tk₃ rc P₃ r₃ => ?_))))))
  refine wpAny_bind (wpAny_release ?_)
  refine wpAny_bind (wpAny_holding ?_)
  cases c with
  | bool q =>
   cases r₃.bool_
   refine wpAny_truthy_bool ?_
   cases q with
   | true =>
    obtain ⟨d, H₄, ed, e⟩ := an e
    obtain ⟨z, H₅, ez, e⟩ := an e
    have F₃ := ((F.post P₁).post P₂).post P₃
    refine wpAny_bind (m := holding [rb] (eval r' env)) (wpAny_holding (hr' o rm hs P₃.rep F₃ ed fun ρ₄ h₄ tk₄ rd P₄ r₄ => wpAny_bind (wpAny_standAt (wpAny_bind (wpAny_operating (ho' o rm P₄.rep ((r₂.post P₃).post P₄) r₄ ez fun ρ₅ h₅ tk₅ rz P₅ r₅ => ?_))))))
    refine wpAny_holding ?_
    cases z with
    | bool t => cases e; cases r₅.bool_; exact wpAny_truthy_bool (hQ _ _ _ _ (P₁.transN (P₂.transN (P₃.transN (P₄.transN P₅)))) rfl)
    | _ => exact nul e
   | false => cases e; exact wpAny_pure (hQ _ _ _ _ (P₁.transN (P₂.transN P₃)) rfl)
  | _ => exact nul e
end
noncomputable def lF (C : Cx) (f : Value) : Prop := ∀ h : Heap, C.K.In h → ∃ k, (k = Keeper.frame ∨ k = Keeper.machine ∨ k = Keeper.boundFrame) ∧ Looks C.M h (keeperOf f) k
theorem mB {C : Cx} {a : Addr} (h : keepIn C.K (.ref a) = true) : lF C (.ref a) := fun hp X => keeps_K h hp X
theorem aI {C : Cx} {id : String} : lF C (.builtin id) := fun hp X => ⟨.machine, .inr (.inl rfl), Looks.of_pure rfl⟩
theorem bR {C : Cx} {id : String} : lF C (.type id) := fun hp X => ⟨.machine, .inr (.inl rfl), Looks.of_pure rfl⟩
theorem oE {M : Model} {A : Around} {E : Value → Shared → Prop} {s : Shared} {f : Value} {args : List (Bool × Sem Value)} {Q : Args → Shared → Prop} (hp : args.any (·.1) = false)
  (h : wpAny M A (spliced args) (fun vs s₁ => Q ⟨vs, []⟩ s₁) E s) : wpAny M A (evalArgs f true args []) Q E s := by
 cases args with
 | nil =>
  unfold evalArgs
  show wpAny M A (spliced [] >>= _) Q E s
  refine wpAny_bind (wpAny_mono h (fun vs s' h' => ?_) fun ξ ξ x => x)
  refine wpAny_bind (wpAny_pure ?_)
  refine wpAny_holding ?_
  exact wpAny_bind (wpAny_pure (wpAny_bind (wpAny_pure (wpAny_pure h'))))
 | cons x rest =>
  obtain ⟨b, t⟩ := x
  simp only [List.any_cons, Bool.or_eq_false_iff] at hp
  obtain ⟨hb, ξ⟩ := hp
  cases b with
  | false => exact evalArgs_plain h
  | true => cases hb
theorem kU {es : List Expr} {env : Env} {pos : Pos} (h : dU es = true) : (backTo pos (starEach es env)).any (·.1) = false := by
 induction es with
 | nil => rfl
 | cons e r ih =>
  rw [lM h]
  exact ih (Bool.and_eq_true_iff.mp h).2
section
variable {C : Cx} {k : Nat} {sc : Scope}
theorem eW {A : Around} {env : Env} {s : Shared} {ρ : List Addr} {H : MH} {loc : Loc} {Q : Value → Shared → Prop} {E : Value → Shared → Prop} {pos : Pos} {f : Value} {first : List Value} {args : List Expr} {fa : EM (List V)} {l : List V} {H₁ : MH}
  (ha : SimL C k sc args fa) (hs : dU args = true) (hk : lF C f) (o : C.Ok) (rm : Room A k) (hsc : env.scope = sc) (R : Rep C ρ H s.heap) (F : Fr0 C ρ s.heap env loc) (e : fa loc H = some (l, H₁))
  (hQ : ∀ ρ₁ h₁ tk₁ vs, Post C ρ H H₁ no s.heap h₁ ρ₁ → RelL ρ₁ h₁ l vs → wpAny C.M A (call f (first ++ vs)) Q E (sw s h₁ tk₁)) :
  wpAny C.M A (callWith pos f first (backTo pos (starEach args env)) []) Q E s := by
 have hp := kU (env := env) (pos := pos) hs
 refine callWith_of (P := C.K.In) (by rw [hp]; rfl) hk (oE hp (ha.run pos o rm hsc R F e fun ρ₁ h₁ tk₁ vs P₁ r₁ => ?_))
 exact ⟨P₁.rep.K o, hQ ρ₁ h₁ tk₁ vs P₁ r₁⟩
theorem sim_call {id : Str} {p pos : Pos} {args : List Expr} {fa : EM (List V)} {m : List V → OM V} {rv : Value} (hn : SimE C k sc (.Name id p) (eC (.raw rv))) (ha : SimL C k sc args fa) (hs : dU args = true) (hk : lF C rv) (hop : OpL C k (fun vs => call rv vs) m) :
  SimE C k sc (.Call (.Name id p) args [] pos) (eL m fa) := fun A env s ρ H loc v' H' ξ ξ o rm hsc R F e hQ => by
 obtain ⟨l, H₁, ea, e⟩ := an e
 refine wpAny_Call_Name_kw (hn o rm hsc R F rfl fun ρ₀ h₀ tk₀ f P₀ r₀ => ?_)
 cases r₀.raw_
 refine eW (first := []) ha hs hk o rm hsc P₀.rep (F.post P₀) ea fun ρ₁ h₁ tk₁ vs P₁ r₁ => ?_
 exact hop o rm P₁.rep r₁ e fun ρ₂ h₂ tk₂ rv P₂ r₂ => hQ ρ₂ h₂ tk₂ rv (P₀.transN (P₁.transN P₂)) r₂
noncomputable def aw (chk : V → OM V) (m : List V → OM V) (fo : EM V) (fa : EM (List V)) : EM V := fun loc => bnd (fo loc) fun a => bnd (chk a) fun ξ => bnd (fa loc) fun l => m (a :: l)
noncomputable def im (a : V) : OM V := dq a fun ξ ξ => rt a
noncomputable def eM (a : V) : OM V := fH a fun ξ ξ => rt a
noncomputable def Chk (C : Cx) (T : String) (chk : V → OM V) : Prop := ∀ {ρ H h a ra b H'}, Rep C ρ H h → Rel ρ h a ra → chk a H = some (b, H') → H' = H ∧ ∃ x o, ra = .ref x ∧ h.get? x = some o ∧ o.cls = .type T ∧ o.dict = none
theorem gU : Chk C "list" im := fun R r e => by
 obtain ⟨l, xs, rfl, hl, e⟩ := cT e
 obtain ⟨a, vs, n, rfl, ha, ho, ξ⟩ := bU R hl r
 obtain ⟨ξ, rfl⟩ := p3 e
 exact ⟨rfl, a, _, rfl, ho, rfl, rfl⟩
theorem cR : Chk C "dict" eM := fun R r e => by
 obtain ⟨l, xs, rfl, hl, e⟩ := d6 e
 obtain ⟨a, rfl, ha, ob⟩ := cX R hl r
 obtain ⟨ξ, rfl⟩ := p3 e
 rcases ob with ⟨kvs, ⟨o, es, ep, ho, hc, _⟩, _⟩ | ⟨xs, ⟨o, es, ep, ho, hc, _⟩, _⟩ <;> exact ⟨rfl, a, o, rfl, ho, hc.1, hc.2.1⟩
theorem bH {ob : Expr} {name : Str} {apos pos : Pos} {args : List Expr} {fo : EM V} {fa : EM (List V)} {m : List V → OM V} {T id : String} {chk : V → OM V}
  (hob : SimE C k sc ob fo) (hch : Chk C T chk) (pa : PlainAttrs T) (slot : Slot T name id) (hty : typeOf (.builtin id) = pure (.type "method_descriptor")) (ha : SimL C k sc args fa) (hs : dU args = true)
  (hop : OpL C k (fun vs => call (.builtin id) vs) m)
  (hbase : ∀ env, attributeBase ob name env (eval ob env) = eval ob env) (hfew : decide (args.length + 0 < 30) = true) (hline : (apos.endLine == pos.line) = true) :
  SimE C k sc (.Call (.Attribute ob name apos) args [] pos) (aw chk m fo fa) := fun A env s ρ H loc v' H' ξ ξ o rm hsc R F e hQ => by
 obtain ⟨a, H₁, ea, e1⟩ := an e
 obtain ⟨b, H₂, eb, e2⟩ := an e1
 obtain ⟨l, H₃, el, e3⟩ := an e2
 have hp := kU (env := env) (pos := pos) hs
 refine wpAny_Call_method (hbase env) (by
  have h1 : (backTo pos (starEach args env)).all (fun x => !x.1) = true := by
   rw [List.all_eq_true]
   intro x hx
   rw [List.any_eq_false] at hp
   simpa using hp x hx
  have h2 : backToKw pos (keywordEach [] env) = [] := rfl
  rw [h1, h2]
  simpa using hfew) hline pa slot hty (hob o rm hsc R F ea fun ρ₁ h₁ tk₁ ra P₁ r₁ => ?_)
 obtain ⟨rfl, x, ox, rfl, ho, hc, hd⟩ := hch P₁.rep r₁ eb
 refine ⟨⟨ox, ho, hc⟩, fun a e => by cases e; exact ⟨ox, ho, hd⟩, ?_⟩
 refine eW (first := [.ref x]) ha hs aI o rm hsc P₁.rep (F.post P₁) el fun ρ₂ h₂ tk₂ vs P₂ r₂ => ?_
 exact hop o rm P₂.rep (.cons (r₁.post P₂) r₂) e3 fun ρ₃ h₃ tk₃ rv P₃ r₃ => hQ ρ₃ h₃ tk₃ rv (P₁.transN (P₂.transN P₃)) r₃
structure MethOk (C : Cx) (K : Addr) (name : Str) (f : Addr) : Prop where
 plain : plainGet C.K K name = true
 find : findIn C.K (.ref K) name = some (some (.ref f))
 fn : isFn C.K (.ref f) = true
 keep : keepIn C.K (.ref f) = true
theorem aP {ob : Expr} {name : Str} {apos pos : Pos} {args : List Expr} {fo : EM V} {fa : EM (List V)} {m : List V → OM V} {K f : Addr} {pl : Env → Sem Bool}
  (hob : SimE C k sc ob fo) (ok : MethOk C K name f) (ha : SimL C k sc args fa) (hs : dU args = true) (hop : OpL C k (fun vs => call (.ref f) vs) m)
  (he : ∀ env, eval (.Call (.Attribute ob name apos) args [] pos) env = (do
   let ov ← eval ob env
   standAt apos.atName
   let (f, first) ← holding [ov] (getMethod ov name (pl env))
   callWith pos f first (backTo pos (starEach args env)) (backToKw pos (keywordEach [] env)))) :
  SimE C k sc (.Call (.Attribute ob name apos) args [] pos) (aw (au K name) m fo fa) := fun A env s ρ H loc v' H' ξ ξ o rm hsc R F e hQ => by
 obtain ⟨a, H₁, ea, e1⟩ := an e
 obtain ⟨b, H₂, eb, e2⟩ := an e1
 obtain ⟨l, H₃, el, e3⟩ := an e2
 refine methodCall_KW (pl := pl env) (hob o rm hsc R F ea fun ρ₁ h₁ tk₁ ra P₁ r₁ => ?_) (he env)
 obtain ⟨j, d, ns, rfl, g1, g2, eb⟩ := iF eb
 obtain ⟨x, dx, es, n, rfl, hx, hd, g3, g4, a2, I⟩ := m6 P₁.rep r₁ g1 g2
 split at eb
 ·cases eb
 ·rename_i hno
  cases eb
  have hl := (EntN.get a2 name).2 hno
  refine method_fn (P₁.rep.K o) I (plainGet_of ok.plain).1 (plainGet_of ok.plain).2 ok.find (beq_iff_eq.mp ok.fn) (by show (lookIn name (dictOf es n)).map _ = _; rw [lookIn_dict, hl]; rfl) ?_
  refine eW (first := [.ref x]) ha hs (mB ok.keep) o rm hsc P₁.rep (F.post P₁) el fun ρ₂ h₂ tk₂ vs P₂ r₂ => ?_
  exact hop o rm P₂.rep (.cons (r₁.post P₂) r₂) e3 fun ρ₃ h₃ tk₃ rv P₃ r₃ => hQ ρ₃ h₃ tk₃ rv (P₁.transN (P₂.transN P₃)) r₃
end
inductive Fl where
 | next
 | brk
 | cont
 | ret (v : V)
noncomputable abbrev SM := Loc → OM (Fl × Loc)
noncomputable def RelF (ρ : List Addr) (h : Heap) : Fl → Flow → Prop
 | .next, f => f = .next
 | .brk, f => f = .brk
 | .cont, f => f = .cont
 | .ret v, f => ∃ rv, f = .ret rv ∧ Rel ρ h v rv
theorem RelF.post {C : Cx} {ρ ρ' : List Addr} {H H' : MH} {h h' : Heap} {ex : Addr → Prop} (P : Post C ρ H H' ex h h' ρ') {v : Fl} {rv : Flow} (x : RelF ρ h v rv) : RelF ρ' h' v rv := by
 cases v with
 | ret v => obtain ⟨u, rfl, r⟩ := x; exact ⟨u, rfl, r.post P⟩
 | _ => exact x
@[reducible] noncomputable def KF (C : Cx) (ρ : List Addr) (H H' : MH) (env : Env) (s : Shared) (loc' : Loc) (x : Fl) (Q : Flow → Shared → Prop) : Prop := ∀ ρ' h' tk rx, Post C ρ H H' (own env) s.heap h' ρ' → Fr0 C ρ' h' env loc' → RelF ρ' h' x rx → Q rx (sw s h' tk)
noncomputable def SimT (C : Cx) (k : Nat) (sc : Scope) (t : Env → Sem Flow) (f : SM) : Prop :=
 ∀ ⦃A : Around⦄ ⦃env : Env⦄ ⦃s : Shared⦄ ⦃ρ : List Addr⦄ ⦃H : MH⦄ ⦃loc : Loc⦄ ⦃x : Fl⦄ ⦃loc' : Loc⦄ ⦃H' : MH⦄ ⦃Q : Flow → Shared → Prop⦄ ⦃E : Value → Shared → Prop⦄, C.Ok → Room A k → env.scope = sc → Rep C ρ H s.heap → Fr0 C ρ s.heap env loc →
  f loc H = some ((x, loc'), H') → KF C ρ H H' env s loc' x Q → wpAny C.M A (t env) Q E s
noncomputable abbrev SimS (C : Cx) (k : Nat) (sc : Scope) (st : Stmt) (f : SM) : Prop := SimT C k sc (fun env => exec st env) f
noncomputable abbrev fq (C : Cx) (k : Nat) (sc : Scope) (sts : List Stmt) (f : SM) : Prop := SimT C k sc (fun env => execs sts env) f
noncomputable def sNil : SM := fun loc => rt (.next, loc)
noncomputable def ai (f g : SM) : SM := fun loc => bnd (f loc) fun r => match r.1 with
 | .next => g r.2
 | x => rt (x, r.2)
noncomputable def sStuck : SM := fun ξ => cZ
noncomputable def aL (f : EM V) : SM := fun loc => bnd (f loc) fun ξ => rt (.next, loc)
noncomputable def sRet (f : EM V) : SM := fun loc => bnd (f loc) fun v => rt (.ret v, loc)
noncomputable def iR : SM := fun loc => rt (.ret .none, loc)
noncomputable def sCont : SM := fun loc => rt (.cont, loc)
noncomputable def sIf (c : EM Bool) (f g : SM) : SM := fun loc => bnd (c loc) fun b => if b then f loc else g loc
noncomputable def sSet (i : Nat) (f : EM V) : SM := fun loc => bnd (f loc) fun v => rt (.next, loc.set i (some v))
noncomputable def ba (K : Addr) (name : Str) (fo fv : EM V) : SM := fun loc => bnd (fv loc) fun v => bnd (fo loc) fun o => bnd (fY K name o v) fun ξ => rt (.next, loc)
noncomputable def cg (d key v : V) : OM V := fun H => match d with
 | .ref l => match H[l]? with
  | some (.list xs) => match key with
   | .int i => if 0 ≤ i ∧ i < 1000000 ∧ i.toNat < xs.length then some (.none, H.set l (.list (xs.set i.toNat v))) else Option.none
   | _ => Option.none
  | some (.dict _ _) => eB d key v H
  | _ => Option.none
 | _ => Option.none
noncomputable def bI (fo fi fv : EM V) : SM := fun loc => bnd (fv loc) fun v => bnd (fo loc) fun o => bnd (fi loc) fun i => bnd (cg o i v) fun ξ => rt (.next, loc)
section
variable {C : Cx} {k : Nat} {sc : Scope}
theorem SimT.le {j : Nat} {t : Env → Sem Flow} {f : SM} (x : SimT C j sc t f) (h : j ≤ k) : SimT C k sc t f := fun ξ ξ ξ ξ ξ ξ ξ ξ ξ ξ ξ o r => x o (r.le h)
theorem qL {α β : Type} {t : Env → Sem α} {R : List Addr → Heap → β → α → Prop} : Sim C k sc t R (fun ξ => cZ) := fun ξ ξ ξ ξ ξ ξ ξ ξ ξ ξ ξ ξ ξ ξ ξ e => by cases e
theorem sims_stuck {t : Env → Sem Flow} : SimT C k sc t sStuck := fun ξ ξ ξ ξ ξ ξ ξ ξ ξ ξ ξ ξ ξ ξ ξ ξ e => by cases e
theorem sims_nil : fq C k sc [] sNil := fun A env s ρ H loc x loc' H' Q E o rm hs R F e hQ => by
 cases e
 exact wpAny_execs_nil (hQ ρ s.heap s.toks .next (.refl R) F rfl)
theorem qK {st : Stmt} {r : List Stmt} {f g : SM} (h : SimS C k sc st f) (h' : fq C k sc r g) : fq C k sc (st :: r) (ai f g) := fun A env s ρ H loc x loc' H' Q E o rm hs R F e hQ => by
 obtain ⟨⟨y, loc₁⟩, H₁, e₁, e⟩ := an e
 refine wpAny_execs_cons (h o rm hs R F e₁ fun ρ₁ h₁ tk₁ rx P₁ F₁ r₁ => ?_)
 cases y with
 | next => cases r₁; exact h' o rm hs P₁.rep F₁ e fun ρ₂ h₂ tk₂ ry P₂ F₂ r₂ => hQ ρ₂ h₂ tk₂ ry (P₁.trans0 P₂) F₂ r₂
 | brk => cases r₁; cases e; exact hQ ρ₁ h₁ tk₁ _ P₁ F₁ rfl
 | cont => cases r₁; cases e; exact hQ ρ₁ h₁ tk₁ _ P₁ F₁ rfl
 | ret v => obtain ⟨rv, rfl, r⟩ := r₁; cases e; exact hQ ρ₁ h₁ tk₁ _ P₁ F₁ ⟨rv, rfl, r⟩
theorem Post.own {ρ ρ' : List Addr} {H H' : MH} {h h' : Heap} {ex : Addr → Prop} (P : Post C ρ H H' no h h' ρ') : Post C ρ H H' ex h h' ρ' := P.mono fun ξ q => q.elim
theorem qI {e : Expr} {pos : Pos} {f : EM V} (h : SimE C k sc e f) (hf : sc.kind = .function) (hs : ∀ env, swapsWith e none pos.line env = pure false) : SimS C k sc (.Expr e pos) (aL f) := fun A env s ρ H loc x loc' H' Q E o rm hsc R F e hQ => by
 obtain ⟨v, H₁, e₁, e⟩ := an e
 cases e
 refine wpAny_Expr_any (h o rm hsc R F e₁ fun ρ₁ h₁ tk₁ rv P₁ r₁ => hQ ρ₁ h₁ tk₁ _ P₁.own (F.post P₁) rfl) ?_ (hs env)
 unfold interactive
 rw [hsc, hf]; rfl
theorem a7 {e : Expr} {pos : Pos} {f : EM V} (h : SimE C k sc e f) : SimS C k sc (.Return (some e) pos) (sRet f) := fun A env s ρ H loc x loc' H' Q E o rm hsc R F e hQ => by
 obtain ⟨v, H₁, e₁, e⟩ := an e
 cases e
 exact wpAny_Return_some (h o rm hsc R F e₁ fun ρ₁ h₁ tk₁ rv P₁ r₁ => hQ ρ₁ h₁ tk₁ _ P₁.own (F.post P₁) ⟨rv, rfl, r₁⟩)
theorem fJ {pos : Pos} : SimS C k sc (.Return none pos) iR := fun A env s ρ H loc x loc' H' Q E o rm hsc R F e hQ => by
 cases e
 exact wpAny_Return_none (hQ ρ s.heap s.toks _ (.refl R) F ⟨_, rfl, rfl⟩)
theorem qJ {pos : Pos} : SimS C k sc (.Continue pos) sCont := fun A env s ρ H loc x loc' H' Q E o rm hsc R F e hQ => by
 cases e
 exact wpAny_Continue (hQ ρ s.heap s.toks _ (.refl R) F rfl)
theorem aN {t : Expr} {a b : List Stmt} {pos : Pos} {c : EM Bool} {f g : SM} (ht : SimB C k sc t c) (ha : fq C k sc a f) (hb : fq C k sc b g) : SimS C k sc (.If t a b pos) (sIf c f g) := fun A env s ρ H loc x loc' H' Q E o rm hsc R F e hQ => by
 obtain ⟨u, H₁, e₁, e⟩ := an e
 refine wpAny_If (ht o rm hsc R F e₁ fun ρ₁ h₁ tk₁ ra P₁ r₁ => ?_)
 subst r₁
 cases ra with
 | true => exact ha o rm hsc P₁.rep (F.post P₁) e fun ρ₂ h₂ tk₂ rb P₂ F₂ r₂ => hQ ρ₂ h₂ tk₂ rb (P₁.own.trans0 P₂) F₂ r₂
 | false => exact hb o rm hsc P₁.rep (F.post P₁) e fun ρ₂ h₂ tk₂ rb P₂ F₂ r₂ => hQ ρ₂ h₂ tk₂ rb (P₁.own.trans0 P₂) F₂ r₂
theorem nu {x : Str} {e : Expr} {p pos : Pos} {i : Nat} {kd : NameKind} {f : EM V} (h : SimE C k sc e f) (hi : sc.names[i]? = some (x, kd)) (hk : kd = .local ∨ kd = .cell) (hs : ∀ env, swapsWith e (some (.Name x p)) pos.line env = pure false) :
  SimS C k sc (.Assign [.Name x p] e pos) (sSet i f) := fun A env s ρ H loc x loc' H' Q E o rm hsc R F e hQ => by
 obtain ⟨v, H₁, e₁, e⟩ := an e
 cases e
 subst hsc
 refine wpAny_Assign_Name (h o rm rfl R F e₁ fun ρ₁ h₁ tk₁ rv P₁ r₁ => ?_) (hs env)
 exact (F.post P₁).store P₁.rep hi hk r₁ fun h' tk P₂ F₂ => hQ ρ₁ h' tk _ (P₁.own.trans0 P₂) F₂ rfl
theorem mN {ob e : Expr} {name : Str} {p pos : Pos} {K : Addr} {fo fv : EM V} (hv : SimE C k sc e fv) (ho : SimE C k sc ob fo) (ok : SetOk C K name) (hs : ∀ env, swapsWith e (some (.Attribute ob name p)) pos.line env = pure false) :
  SimS C k sc (.Assign [.Attribute ob name p] e pos) (ba K name fo fv) := fun A env s ρ H loc x loc' H' Q E o rm hsc R F e hQ => by
 obtain ⟨v, H₁, e₁, e⟩ := an e
 obtain ⟨ov, H₂, e₂, e⟩ := an e
 obtain ⟨u, H₃, e₃, e⟩ := an e
 cases e
 refine plainObj_wpAny_Assign_Attribute (hv o rm hsc R F e₁ fun ρ₁ h₁ tk₁ rv P₁ r₁ => ho o rm hsc P₁.rep (F.post P₁) e₂ fun ρ₂ h₂ tk₂ ro P₂ r₂ => ?_) (hs env)
 refine o9 ok o P₂.rep r₂ (r₁.post P₂) e₃ fun h₃ tk₃ P₃ => ?_
 exact hQ ρ₂ h₃ tk₃ _ (P₁.transN (P₂.transN P₃)).own (((F.post P₁).post P₂).post P₃) rfl
theorem p4 {ρ : List Addr} {h : Heap} : ∀ {xs : List V} {vs : List Value}, RelL ρ h xs vs → ∀ {v : V} {rv : Value}, Rel ρ h v rv → ∀ j : Nat, RelL ρ h (xs.set j v) (vs.set j rv)
 | [], _, r, _, _, _, _ => by cases r.unnil; exact .nil
 | x :: xs, _, r, v, rv, q, j => by
  obtain ⟨u, us, rfl, r1, r2⟩ := r.uncons
  cases j with
  | zero => exact .cons q r2
  | succ j => exact .cons r1 (p4 r2 q j)
theorem put_list {A : Around} {E : Value → Shared → Prop} {s : Shared} {Q : Unit → Shared → Prop} {a : Addr} {vs : Array Value} {n : Nat} {k : Int} {t : Tok} {v : Value} (ho : s.heap.get? a = some (dn vs n)) (h0 : 0 ≤ k) (hf : k < 2 ^ 63) (hj : k < vs.size)
  (h : Q () { s with heap := s.heap.update a (Obj.mapSeq fun vs => vs.setIfInBounds k.toNat v) }) : wpAny C.M A (setItem (.ref a) (.int k t) v) Q E s := by
 have hl : s.heap.IsList a vs := ⟨_, ho, rfl, n, rfl⟩
 unfold setItem
 with_reducible refine wpAny_holding ?_
 refine wpAny_bind (wpAny_sequenceKey hl.typeIs (by decide) ?_)
 refine wpAny_bind (wpAny_callSpecial?_slot (name := Str.ofString "__setitem__") hl.typeIs slot_list_setitem (wpAny_call_entry slot_list_setitem hl.typeIs entry_list_setitem ?_ (args_list_setitem _ _ _)))
 show wpAny _ _ (Builtin.List.listSubscript? (.int k t) >>= _) _ _ s
 refine wpAny_bind (wpAny_listSubscript_int (fitsIndex_of h0 hf) ?_)
 clear hf
 obtain ⟨j, rfl⟩ := Int.eq_ofNat_of_zero_le h0
 have hj' : j < vs.size := by omega
 show wpAny _ _ ((seqItemAt a j >>= fun r => pure (r.map (j, ·))) >>= _) _ _ s
 refine wpAny_bind (wpAny_bind (wpAny_seqItemAt ho rfl (wpAny_pure ?_)))
 rw [Array.getElem?_eq_getElem hj']
 show wpAny _ _ (setSeqItemAt a j v >>= _) _ _ s
 refine wpAny_bind (wpAny_setSeqItemAt ho rfl ?_)
 first
  | exact wpAny_bind (wpAny_pure (wpAny_pure ⟨.none, rfl, wpAny_pure h⟩))
  | exact wpAny_pure ⟨.none, rfl, wpAny_pure h⟩
theorem nN : Op3 C (k + 1) setItem cg := fun A s ρ H a b c ra rb rc v H' Q E o rm R r₁ r₂ r₃ e hQ => by
 unfold cg at e
 cases a with
 | ref l =>
  dsimp only at e
  cases hl : H[l]? with
  | none => rw [hl] at e; exact nul e
  | some m =>
   rw [hl] at e
   cases m with
   | list xs =>
    cases b with
    | int i =>
     dsimp only at e
     split at e
     ·rename_i hc
      cases e
      obtain ⟨a, vs, n, rfl, ha, ho, rl, hz⟩ := bU R hl r₁
      obtain ⟨t, rfl⟩ := r₂.int_
      refine put_list ho hc.1 (by omega) (by omega) ?_
      refine hQ ρ _ _ (i6 R (fun vs => vs.setIfInBounds i.toNat rc) ha ho hl ?_)
      have := p4 rl r₃ i.toNat
      simpa using this
     ·exact nul e
    | _ => exact nul e
   | dict es n => exact o8 o rm R r₁ r₂ r₃ e hQ
   | _ => exact nul e
 | _ => exact nul e
theorem bm {ob ix e : Expr} {p pos : Pos} {fo fi fv : EM V} (hv : SimE C (k + 1) sc e fv) (ho : SimE C (k + 1) sc ob fo) (hi : SimE C (k + 1) sc ix fi) (hs : ∀ env, swapsWith e (some (.Subscript ob ix p)) pos.line env = pure false) :
  SimS C (k + 1) sc (.Assign [.Subscript ob ix p] e pos) (bI fo fi fv) := fun A env s ρ H loc x loc' H' Q E o rm hsc R F e hQ => by
 obtain ⟨v, H₁, e₁, e⟩ := an e
 obtain ⟨ov, H₂, e₂, e⟩ := an e
 obtain ⟨iv, H₃, e₃, e⟩ := an e
 obtain ⟨u, H₄, e₄, e⟩ := an e
 cases e
 refine wpAny_Assign_Subscript (hv o rm hsc R F e₁ fun ρ₁ h₁ tk₁ rv P₁ r₁ => ho o rm hsc P₁.rep (F.post P₁) e₂ fun ρ₂ h₂ tk₂ ro P₂ r₂ => hi o rm hsc P₂.rep ((F.post P₁).post P₂) e₃ fun ρ₃ h₃ tk₃ ri P₃ r₃ => ?_) (hs env)
 refine nN o rm P₃.rep (r₂.post P₃) r₃ ((r₁.post P₂).post P₃) e₄ fun ρ₄ h₄ tk₄ P₄ => ?_
 exact hQ ρ₄ h₄ tk₄ _ (P₁.transN (P₂.transN (P₃.transN P₄))).own ((((F.post P₁).post P₂).post P₃).post P₄) rfl
end
structure RawD (h : Heap) (d : Addr) (o : Obj) (es : Array DictEntry) (ep : Nat) : Prop where
 get : h.get? d = some o
 exact_ : o.ExactDict
 data : o.data = .dict es ep
theorem RawD.at {h h' : Heap} {d : Addr} {o : Obj} {es : Array DictEntry} {ep : Nat} (x : RawD h d o es ep) (k : ∀ o, h.get? d = some o → h'.get? d = some o) : RawD h' d o es ep := ⟨k o x.get, x.exact_, x.data⟩
theorem RawD.typeIs {s : Shared} {d : Addr} {o : Obj} {es : Array DictEntry} {ep : Nat} (x : RawD s.heap d o es ep) : s.TypeIs (.ref d) "dict" := ⟨o, x.get, x.exact_.1⟩
section
variable {prog : Program} {w : World} {A : Around} {E : Value → Shared → Prop} {s : Shared} {d it : Addr} {o : Obj} {es : Array DictEntry} {ep : Nat}
theorem nE {Q : Value → Shared → Prop} (lo : (d == sysModules) = false) (x : RawD s.heap d o es ep)
  (hQ : Q (.ref s.heap.objs.size) { s with heap := s.heap.push { cls := .type "dict_keyiterator", data := .fields #[.ref d, .int 0 0, .int es.size 0, .int ep 0] } }) : wpAny (model prog w) A (pyIter (.ref d)) Q E s := by
 refine wpAny_pyIter_slot x.typeIs PySem.F.slot_dict_iter (wpAny_call_entry PySem.F.slot_dict_iter x.typeIs PySem.F.entry_dict_iter ?_ (PySem.F.args_dict_iter_1 _))
 unfold Builtin.«dict.__iter__»
 refine wpAny_bind ?_
 unfold Builtin.Dict.dictSlotNone
 refine wpAny_bind (wpAny_notOrdered_dict x.typeIs ?_)
 show wpAny _ _ (pure (Value.ref d)) _ _ s
 refine wpAny_pure ?_
 show wpAny _ _ (Builtin.Dict.showsAll d >>= _) _ _ s
 unfold Builtin.Dict.showsAll
 rw [if_neg (by rw [lo]; exact Bool.false_ne_true)]
 refine wpAny_bind (wpAny_pure ?_)
 refine wpAny_bind (wpAny_dictEntries x.get x.data ?_)
 refine wpAny_bind (wpAny_dictEpoch x.get x.data ?_)
 refine wpAny_bind (wpAny_newObj_type (wpAny_pure ⟨_, rfl, "dict_keyiterator", _, ⟨_, Heap.get?_push_size _ rfl, rfl⟩, PySem.F.slot_dict_keyiterator_next.lookup, ?_⟩))
 simpa [rawInt] using hQ
theorem nF {i : Nat} {e : DictEntry} {Q : Option Value → Shared → Prop} (hit : s.heap.IsKeyIter it d i es.size ep) (x : RawD s.heap d o es ep) (hx : es[i]? = some e)
  (hQ : ∀ h', h'.IsKeyIter it d (i + 1) es.size ep → Heap.SameBut it s.heap h' → Q (some e.key) { s with heap := h' }) : wpAny (model prog w) A (pyNext (.ref it)) Q E s := by
 obtain ⟨oi, ho, hc, hd⟩ := id hit
 unfold pyNext
 refine wpAny_bind (wpAny_attempt (wpAny_callSpecial?_slot (name := Str.ofString "__next__") hit.typeIs PySem.F.slot_dict_keyiterator_next
  (wpAny_call_entry PySem.F.slot_dict_keyiterator_next hit.typeIs PySem.F.entry_dict_keyiterator_next ?_ (PySem.F.args_dict_keyiterator_next_1 _))))
 refine wpAny_bind (wpAny_pure ?_)
 refine wpAny_bind (wpAny_bind ?_)
 first | refine wpAny_bind (wpAny_typeNameOfWhole_keyiter hit.typeIs (wpAny_pure ?_)) | refine wpAny_bind (wpAny_typeNameOf_keyiter hit.typeIs (wpAny_pure ?_))
 refine wpAny_bind (wpAny_fieldsOf ho hd ?_)
 rw [if_neg (show ¬ Builtin.Dict_items.ownsTuple "dict_keyiterator" = true by decide)]
 show wpAny _ _ (if (Value.ref d == Value.none) = true then _ else _) _ _ s
 rw [if_neg (show ¬ ((Value.ref d == Value.none) = true) from Bool.false_ne_true)]
 refine wpAny_bind (wpAny_pure ?_)
 refine wpAny_bind (wpAny_dictEntries x.get x.data ?_)
 rw [if_neg (by simp)]
 refine wpAny_bind (wpAny_pure ?_)
 refine wpAny_bind (wpAny_dictEpoch x.get x.data ?_)
 rw [if_neg (by simp)]
 refine wpAny_pure ?_
 simp only [show ¬ ((i : Int) < 0) from by omega, if_false, Int.toNat_natCast, hx]
 refine wpAny_bind ?_
 first | refine wpAny_bind (wpAny_typeNameOfWhole_keyiter hit.typeIs (wpAny_pure ?_)) | refine wpAny_bind (wpAny_typeNameOf_keyiter hit.typeIs (wpAny_pure ?_))
 refine wpAny_bind (wpAny_isOneOf_keyiter hit.typeIs ?_)
 show wpAny _ _ (setField (.ref it) 1 (rawInt ((i : Int) + 1)) >>= _) _ _ s
 refine wpAny_bind (wpAny_setField ho hd (by simp) ?_)
 have hit' : (s.heap.update it (Obj.mapFields (·.setIfInBounds 1 (rawInt ((i : Int) + 1))))).IsKeyIter it d (i + 1) es.size ep :=
  ⟨_, Heap.get?_update_self _ ho (Obj.isFreed_of_fields (Obj.data_mapFields hd _)), (Obj.cls_mapFields ..).trans hc, by rw [Obj.data_mapFields hd]; simp [rawInt]⟩
 refine wpAny_bind (wpAny_holding ?_)
 refine wpAny_bind (wpAny_isOneOf_keyiter (s := { s with heap := s.heap.update it (Obj.mapFields (·.setIfInBounds 1 (rawInt ((i : Int) + 1)))) }) hit'.typeIs ?_)
 show wpAny _ _ (pure e.key) _ _ _
 exact wpAny_pure (wpAny_pure ⟨_, rfl, wpAny_pure (hQ _ hit' (Heap.SameBut.update ..))⟩)
theorem p5 {Q : Option Value → Shared → Prop} (hh : A.handled = none) (hit : s.heap.IsKeyIter it d es.size es.size ep) (x : RawD s.heap d o es ep)
  (hQ : ∀ h', Heap.ExtBut it s.heap h' → Q none { s with heap := h' }) : wpAny (model prog w) A (pyNext (.ref it)) Q E s := by
 obtain ⟨oi, ho, hc, hd⟩ := id hit
 unfold pyNext
 refine wpAny_bind (wpAny_attempt (wpAny_callSpecial?_slot (name := Str.ofString "__next__") hit.typeIs PySem.F.slot_dict_keyiterator_next
  (wpAny_call_entry PySem.F.slot_dict_keyiterator_next hit.typeIs PySem.F.entry_dict_keyiterator_next ?_ (PySem.F.args_dict_keyiterator_next_1 _))))
 refine wpAny_bind (wpAny_pure ?_)
 refine wpAny_bind (wpAny_bind ?_)
 first | refine wpAny_bind (wpAny_typeNameOfWhole_keyiter hit.typeIs (wpAny_pure ?_)) | refine wpAny_bind (wpAny_typeNameOf_keyiter hit.typeIs (wpAny_pure ?_))
 refine wpAny_bind (wpAny_fieldsOf ho hd ?_)
 rw [if_neg (show ¬ Builtin.Dict_items.ownsTuple "dict_keyiterator" = true by decide)]
 show wpAny _ _ (if (Value.ref d == Value.none) = true then _ else _) _ _ s
 rw [if_neg (show ¬ ((Value.ref d == Value.none) = true) from Bool.false_ne_true)]
 refine wpAny_bind (wpAny_pure ?_)
 refine wpAny_bind (wpAny_dictEntries x.get x.data ?_)
 rw [if_neg (by simp)]
 refine wpAny_bind (wpAny_pure ?_)
 refine wpAny_bind (wpAny_dictEpoch x.get x.data ?_)
 rw [if_neg (by simp)]
 refine wpAny_pure ?_
 simp only [show ¬ ((es.size : Int) < 0) from by omega, if_false, Int.toNat_natCast, Array.getElem?_eq_none (Nat.le_refl es.size)]
 refine wpAny_bind ?_
 first | refine wpAny_bind (wpAny_typeNameOfWhole_keyiter hit.typeIs (wpAny_pure ?_)) | refine wpAny_bind (wpAny_typeNameOf_keyiter hit.typeIs (wpAny_pure ?_))
 show wpAny _ _ (setField (.ref it) 0 .none >>= _) _ _ s
 refine wpAny_bind (wpAny_setField ho hd (by simp) ?_)
 show wpAny _ _ (newExc (.type "StopIteration") [] >>= _) _ _ _
 refine wpAny_bind ?_
 simp only [newExc, newTuple]
 refine wpAny_bind (wpAny_newObj_type ?_ (by size_fits))
 refine wpAny_bind (m := firstArgMember _ _) (wpAny_of_eq (a := Value.none) (by first | rfl | (simp only [firstArgMember]; rfl)) ?_)
 refine wpAny_newObj_type ?_ (by size_fits)
 refine wpAny_bind (m := handled) (wpAny_handled ?_)
 first | rw [show A.in1.handled = none from hh] | rw [hh]
 refine wpAny_bind (wpAny_pure (wpAny_throw ?_))
 refine wpAny_bind (wpAny_isInstance (T := "StopIteration") (b := true) ⟨_, Heap.get?_push_size _ rfl, rfl⟩ isSubtype_stop ?_)
 exact wpAny_pure (hQ _ (((Heap.SameBut.update ..).extBut.push _).push _))
theorem Walks.raw (hh : A.handled = none) (I d : Addr) (hne : d ≠ I) (o : Obj) (es : Array DictEntry) (ep : Nat) :
  Walks prog w A I [I, d] [I] es.size (fun i v => ∃ e, es[i]? = some e ∧ e.key = v) (fun i h => h.IsKeyIter I d i es.size ep ∧ RawD h d o es ep) where
 sub := fun b hb => by simp at hb; simp [hb]
 frame := fun ξ ξ ξ st hk => ⟨st.1.at fun o e => hk I (by simp) o e, st.2.at fun o e => hk d (by simp) o e⟩
 item := fun i s Q E hi st hQ => by
  refine nF st.1 st.2 (Array.getElem?_eq_getElem hi) fun h' hit' hs' => ?_
  exact hQ _ h' s.toks ⟨_, Array.getElem?_eq_getElem hi, rfl⟩ ⟨hit', st.2.at fun o e => (hs'.2 d hne).trans e⟩ fun b o hb e => hs'.extBut b o (fun h => hb (by simp [h])) e
 done := fun s Q E st hQ => p5 hh st.1 st.2 fun h' he' => hQ h' s.toks fun b o hb e => he' b o (fun h => hb (by simp [h])) e
 self := fun ξ ξ ξ ξ st hQ => wpAny_pyIter_keyiter st.1 hQ
theorem ql (lo : (d == sysModules) = false) : KdlSrc prog w "dict" d d es.size (fun i v => ∃ e, es[i]? = some e ∧ e.key = v) (fun h => RawD h d o es ep) where
 type := fun ξ x => x.typeIs
 there := fun ξ x => ⟨Heap.lt_size x.get, Heap.lt_size x.get⟩
 keep := fun ξ ξ x hk => x.at fun o e => hk d (.inl rfl) o e
 notList := by decide
 notTuple := by decide
 hint := fun ξ ξ ξ ξ x hq => kdl_hint_dict x.typeIs hq
 iter := fun ξ ξ hh x => ⟨_, _, (fun ξ ξ hq => nE lo x hq), Walks.raw hh _ d (Nat.ne_of_lt (Heap.lt_size x.get)) o es ep, ⟨⟨_, Heap.get?_push_size _ rfl, rfl, rfl⟩, x.at fun o e => Heap.get?_push_of_some _ e⟩⟩
end
noncomputable abbrev hz (s : Shared) : Nat := s.heap.objs.size
theorem hz_push (h : Heap) (o : Obj) : h.objs.size ≤ (h.push o).objs.size := by rw [Heap.size_push]; omega
theorem mP {M : Model} {Γ : PySem.Ctx} {p : Pos} {t : Sem PySem.Fin} {fs : List Frame} {s s' : Shared} {e : End} (h : Runs M Γ p t fs s e s') : hz s ≤ hz s' := by
 unfold hz
 induction h <;> (try simp only [Shared.setGen, Heap.size_update, Heap.size_push] at *) <;> omega
theorem o4 {M : Model} {Γ : PySem.Ctx} {p : Pos} {s s' : Shared} {r : Result} (h : Returns M Γ p s r s') : hz s ≤ hz s' := mP h
theorem wakes_hz {M : Model} {Γ : PySem.Ctx} {p : Pos} {g : Nat} {r : Resume} {s s' : Shared} {res : GenResult} (h : Wakes M Γ p g r s res s') : hz s ≤ hz s' := by
 unfold Wakes at h
 cases hg : s.gens[g]? with
 | none => rw [hg] at h; exact h.elim
 | some st =>
  rw [hg] at h
  cases st with
  | fresh c =>
   cases r with
   | send v =>
    cases v with
    | none => obtain ⟨e₁, s₁, hr, ξ, ξ, rfl⟩ := h; exact (mP hr : hz (s.setGen g .running) ≤ hz s₁)
    | _ => rw [h.2]; exact Nat.le_refl _
   | throw x => rw [h.2]; exact Nat.le_refl _
  | suspended => obtain ⟨e₁, s₁, hr, ξ, ξ, rfl⟩ := h; exact (mP hr : hz (s.setGen g .running) ≤ hz s₁)
  | running => rw [h.2]; exact Nat.le_refl _
  | finished => rw [h.2]; exact Nat.le_refl _
theorem wp_hz {α : Type} (M : Model) (Γ : PySem.Ctx) (n : Nat) (t : Sem α) : ∀ (Q : α → Pos → Shared → Prop) (E : Value → Pos → Shared → Prop) (p : Pos) (s : Shared), n ≤ hz s → Sem.wp M Γ t Q E p s →
  Sem.wp M Γ t (fun a p' s' => n ≤ hz s' ∧ Q a p' s') (fun e p' s' => n ≤ hz s' ∧ E e p' s') p s := by
 induction t with
 | pure a => intro Q E p s hn h; exact ⟨hn, h⟩
 | raise e => intro Q E p s hn h; exact ⟨hn, h⟩
 | unsupported _ => intro Q E p s _ h; exact h
 | finish _ => intro Q E p s _ h; exact h
 | rule _ k ih => intro Q E p s hn h; exact ih () Q E p s hn h
 | «at» p' k ih => intro Q E p s hn h; exact ih () Q E p' s hn h
 | load a _ k ih => intro Q E p s hn h; obtain ⟨o, ho, h⟩ := h; exact ⟨o, ho, ih o Q E p s hn h⟩
 | update a _ f k ih => intro Q E p s hn h; exact ⟨h.1, ih () Q E p _ (by show n ≤ (s.heap.update a f).objs.size; rw [Heap.size_update]; exact hn) h.2⟩
 | loadIfAlive a k ih => intro Q E p s hn h; exact ih _ Q E p s hn h
 | point _ k ih => intro Q E p s hn h; exact ih () Q E p s hn h
 | register _ _ => intro Q E p s _ h; exact h
 | alloc o k ih => intro Q E p s hn h; exact ih _ Q E p _ (Nat.le_trans hn (hz_push _ _)) h
 | fresh k ih => intro Q E p s hn h; exact ih _ Q E p _ hn h
 | ask k ih => intro Q E p s hn h; exact ih _ Q E p s hn h
 | choose src m k ih => intro Q E p s hn h; exact ⟨h.1, ih _ Q E p _ hn h.2⟩
 | os q _ k ih => intro Q E p s hn h; exact ih _ Q E p _ hn h
 | call c hd _ _ k ih => intro Q E p s hn h; obtain ⟨r, s', hr, h⟩ := h; exact ⟨r, s', hr, ih r Q E p s' (Nat.le_trans hn (o4 hr)) h⟩
 | handled own k ih => intro Q E p s hn h; exact ih _ Q E p s hn h
 | genState g k ih => intro Q E p s hn h; obtain ⟨st, hs, h⟩ := h; exact ⟨st, hs, ih _ Q E p s hn h⟩
 | newGen c k ih => intro Q E p s hn h; exact ih _ Q E p _ hn h
 | resume g r _ k ih => intro Q E p s hn h; obtain ⟨res, s', hw, h⟩ := h; exact ⟨res, s', hw, ih res Q E p s' (Nat.le_trans hn (wakes_hz hw)) h⟩
 | yield _ _ _ _ => intro Q E p s _ h; exact h
 | stack k ih => intro Q E p s hn h; exact ih _ Q E p s hn h
 | fork _ _ => intro Q E p s _ h; exact h
 | thread k ih => intro Q E p s hn h; exact ih _ Q E p s hn h
 | await _ _ _ _ _ => intro Q E p s _ h; exact h
theorem dd {α : Type} {M : Model} {A : Around} {s : Shared} {t : Sem α} {Q : α → Shared → Prop} {E : Value → Shared → Prop} (h : wpAny M A t (fun a s' => hz s ≤ hz s' → Q a s') E s) : wpAny M A t Q E s :=
 fun Γ p hΓ => Sem.wp_mono M Γ t (fun a p' s' h' => h'.2 h'.1) (fun e p' s' h' => h'.2) p s (wp_hz M Γ (hz s) t _ _ p s (Nat.le_refl _) (h Γ p hΓ))
section
variable {C : Cx} {ρ ρ' : List Addr} {H H' : MH} {h h' : Heap}
theorem Post.side {ex : Addr → Prop} (R : Rep C ρ H h) (k : ∀ b o, ¬ ex b → h.get? b = some o → h'.get? b = some o) (hx : ∀ b, ex b → b ∉ ρ ∧ C.base.objs.size ≤ b ∧ ∀ o, h.get? b = some o → ¬ gv o) (hs : h.objs.size ≤ h'.objs.size) : Post C ρ H H ex h h' ρ := by
 have st : Step (fun b => b ∈ ρ ∨ ex b) h h' := ⟨fun b o e c => k b o (fun q => (hx b q).2.2 o e c) e, fun b o e n => k b o (fun q => n (.inr q)) e⟩
 have same : ∀ b ∈ ρ, ∀ o, h.get? b = some o → h'.get? b = some o := fun b hb o e => k b o (fun q => (hx b q).1 hb) e
 refine ⟨st, ⟨fun b o e => k b o (fun q => absurd (Heap.lt_size e) (Nat.not_lt.mpr (hx b q).2.1)) (R.keep b o e), Nat.le_trans R.size hs, R.len, R.nodup, R.low, R.off, fun i a m hi hm => ?_⟩, hs, ⟨[], by simp, fun ξ q => by cases q⟩, fun i a es n hi e => ⟨es, n, e, Nat.le_refl _, fun ξ => ⟨rfl, ?_⟩⟩, fun i a xs hi e => ⟨e, ?_⟩⟩
 ·exact (R.obj i a m hi hm).step st ⟨[], by simp⟩ (same a (List.mem_of_getElem? hi))
 ·obtain ⟨o, ho, ξ⟩ := R.mem (List.mem_of_getElem? hi)
  exact (same a (List.mem_of_getElem? hi) o ho).trans ho.symm
 ·obtain ⟨o, ho, ξ⟩ := R.mem (List.mem_of_getElem? hi)
  exact (same a (List.mem_of_getElem? hi) o ho).trans ho.symm
theorem Fr0.postX {env : Env} {loc : Loc} {ex : Addr → Prop} (F : Fr0 C ρ h env loc) (P : Post C ρ H H' ex h h' ρ') (h1 : ¬ ex env.locals) (h2 : ∀ x c, env.cells.lookup x = some c → ¬ ex c) : Fr0 C ρ' h' env loc := by
 have kc : ∀ x c, env.cells.lookup x = some c → ∀ o, h.get? c = some o → h'.get? c = some o := fun x c hc o e => P.step.oth c o e (by rintro (q | q); exact (F.offc x c hc).1 q; exact h2 x c hc q)
 refine ⟨F.toFrm.step P.step P.ext (fun o e => P.step.oth _ o e (by rintro (q | q); exact F.off.1 q; exact h1 q)) kc (fun x c hc => by obtain ⟨v, hv⟩ := F.cells x c hc; exact hv.lt), fun x c hc => ?_⟩
 obtain ⟨v, hv⟩ := F.cells x c hc
 exact ⟨v, f7 hv (kc x c hc)⟩
theorem Fr0.loc_lt {env : Env} {loc : Loc} (F : Fr0 C ρ h env loc) : env.locals < h.objs.size := by obtain ⟨ξ, hm, ξ⟩ := F.ns; exact Ns_lt hm
theorem Fr0.cell_lt {env : Env} {loc : Loc} (F : Fr0 C ρ h env loc) {x : Str} {c : Addr} (hc : env.cells.lookup x = some c) : c < h.objs.size := by obtain ⟨ξ, hv⟩ := F.cells x c hc; exact hv.lt
end
inductive Src where
 | list (j : Nat) (xs : List V)
 | dict (j : Nat) (es : List (Key × V)) (n : Nat)
 | vals (j : Nat) (es : List (Key × V)) (n : Nat)
 | range (lo : Int) (n : Nat)
 | enum (j : Nat) (xs : List V)
noncomputable def b9 : Nat → List V → List V
 | _, [] => []
 | i, v :: r => .tup [.int i, v] :: b9 (i + 1) r
noncomputable def Src.items : Src → List V
 | .list _ xs => xs
 | .dict _ es _ => es.map fun e => .ofKey e.1
 | .vals _ es _ => es.map (·.2)
 | .range lo n => (List.range n).map fun i : Nat => .int (lo + (i : Int))
 | .enum _ xs => b9 0 xs
theorem pK {j : Nat} {xs : List V} : (Src.list j xs).items = xs := rfl
theorem k9 {j n : Nat} {es : List (Key × V)} : (Src.dict j es n).items = es.map fun e => .ofKey e.1 := rfl
theorem k7 {j n : Nat} {es : List (Key × V)} : (Src.vals j es n).items = es.map (·.2) := rfl
theorem jP {lo : Int} {n : Nat} : (Src.range lo n).items = (List.range n).map fun i : Nat => .int (lo + (i : Int)) := rfl
theorem k8 {j : Nat} {xs : List V} : (Src.enum j xs).items = b9 0 xs := rfl
noncomputable def Src.ok : Src → MH → Prop
 | .list j xs, H => H[j]? = some (.list xs)
 | .dict j es n, H => H[j]? = some (.dict es n)
 | .vals j es n, H => H[j]? = some (.dict es n) ∧ allP es = true
 | .range _ _, _ => True
 | .enum j xs, H => H[j]? = some (.list xs)
noncomputable def EpAt (h : Heap) (d : Addr) (ep : Nat) : Prop := ∃ o es, h.get? d = some o ∧ o.data = .dict es ep
noncomputable def ItAt (ρ : List Addr) (h : Heap) : Src → Nat → Addr → Addr → Prop
 | .list j _, i, I, J => J = I ∧ ∃ l, ρ[j]? = some l ∧ h.IsListIter I l i
 | .dict j es _, i, I, J => J = I ∧ ∃ d ep, ρ[j]? = some d ∧ h.IsKeyIter I d i es.length ep ∧ EpAt h d ep
 | .vals j es _, i, I, J => J = I ∧ ∃ d ep, ρ[j]? = some d ∧ h.IsValIter I d i es.length ep ∧ EpAt h d ep
 | .range lo n, i, I, J => J = I ∧ IsRangeIter h I (lo + (i : Nat) * 1) ((n : Int) - (i : Nat)) 1
 | .enum j _, i, I, J => I ≠ J ∧ ∃ l old, ρ[j]? = some l ∧ IsEnum h I J (i : Int) old ∧ h.IsListIter J l i
noncomputable abbrev two (I J : Addr) : Addr → Prop := fun b => b = I ∨ b = J
theorem iZ : ∀ (xs : List V) (k i : Nat), (b9 k xs)[i]? = (xs[i]?).map fun v => .tup [.int ((k + i : Nat) : Int), v]
 | [], _, _ => by simp [b9]
 | x :: xs, k, 0 => by simp [b9]
 | x :: xs, k, i + 1 => by
  rw [b9, List.getElem?_cons_succ, iZ xs (k + 1) i, List.getElem?_cons_succ]
  have : k + 1 + i = k + (i + 1) := by omega
  rw [this]
theorem All2.get {α β : Type} {R : α → β → Prop} {l : List α} {m : List β} (x : All2 R l m) : ∀ {i : Nat} {a : α}, l[i]? = some a → ∃ b, m[i]? = some b ∧ R a b := by
 induction x with
 | nil => intro i a e; simp at e
 | cons h ξ ih =>
  intro i a e
  cases i with
  | zero => simp only [List.getElem?_cons_zero, Option.some.injEq] at e ⊢; subst e; exact ⟨_, rfl, h⟩
  | succ i => simp only [List.getElem?_cons_succ] at e ⊢; exact ih e
section
variable {C : Cx} {k : Nat} {ρ : List Addr} {H : MH} {h : Heap}
theorem gS {a : Addr} {es : List (Key × V)} {n : Nat} (x : ObjAt C ρ h a (.dict es n)) :
  ∃ o des ep, RawD h a o des ep ∧ des.size = es.length ∧ ∀ (i : Nat) (e : Key × V), es[i]? = some e → ∃ de : DictEntry, des[i]? = some de ∧ Rel ρ h (.ofKey e.1) de.key := by
 rcases x with ⟨kvs, ⟨o, des, ep, ho, hx, hd, hk, hp, hn⟩, a2⟩ | ⟨xs, ⟨o, des, ep, ho, hx, hd, he, hk, hn⟩, a2⟩
 ·have hsz : des.size = es.length := by rw [a2.length, ← hp.length]; simp
  refine ⟨o, des, ep, ⟨ho, hx, hd⟩, hsz, fun i e ei => ?_⟩
  obtain ⟨⟨k1, v1⟩, hb, e1, e2⟩ := a2.get ei
  have hlt : i < des.size := by rw [hsz]; exact (List.getElem?_eq_some_iff.mp ei).1
  refine ⟨des[i], Array.getElem?_eq_getElem hlt, ?_⟩
  have := (hp.get? (e := des[i]) (by simp [hlt]) hb).1
  rw [e1]
  exact Rel.ofPrim.mpr this
 ·have hsz : des.size = es.length := by rw [a2.length]; exact size_of_entries he
  refine ⟨o, des, ep, ⟨ho, hx, hd⟩, hsz, fun i e ei => ?_⟩
  obtain ⟨⟨k1, c1, v1⟩, hb, e1, e2⟩ := a2.get ei
  refine ⟨entryOfKey C.tk (k1, c1, v1), by rw [entry_at he, hb]; rfl, ?_⟩
  rw [e1]
  exact (Rel.tupKey (C := C)).mpr ⟨c1, rfl, hk _ (List.mem_of_getElem? hb)⟩
theorem RawD.same {a : Addr} {o : Obj} {des : Array DictEntry} {ep ep' : Nat} (x : RawD h a o des ep) (y : EpAt h a ep') : ep = ep' := by
 obtain ⟨o', es', ho', hd'⟩ := y
 rw [x.get] at ho'; cases ho'
 have := x.data.symm.trans hd'
 cases this; rfl
noncomputable def goNames : List String := ["enumerate", "zip", "dict_itemiterator", "dict_reverseitemiterator", "odict_iterator", "itertools.zip_longest", "itertools.pairwise"]
theorem i7 {M : Model} {A : Around} {E : Value → Shared → Prop} {s : Shared} {tgt : Expr} {I : Addr} {T : String} {o : Obj} {rv : Value} {Q : Unit → Shared → Prop} (ho : s.heap.get? I = some o) (hc : o.cls = .type T) (hT : goNames.contains T = false) (hq : Q () s) :
  wpAny M A (letOwnedTupleGo tgt (.ref I) rv) Q E s := by
 have body : wpAny M A (match (Value.ref I, rv) with
   | (.ref r, .ref a) => (do
    let o ← load r
    match o.cls, o.data with
    | .type n, .fields vs => if goNames.contains n && vs[0]? == some (rawInt a) then (do rule "for.unpacks-the-owned-tuple"; updateField r 0 .none) else pure ()
    | _, _ => pure ())
   | _ => pure ()) Q E s := by
  cases rv with
  | ref a =>
   refine wpAny_bind (wpAny_load ho ?_)
   rw [hc]
   cases o.data with
   | fields vs =>
    dsimp only
    rw [if_neg (by rw [hT]; simp)]
    exact wpAny_pure hq
   | _ => exact wpAny_pure hq
  | _ => exact wpAny_pure hq
 cases tgt with
 | Tuple elts n p =>
  cases rv with
  | ref a => exact body
  | _ => exact wpAny_pure hq
 | List elts p =>
  cases rv with
  | ref a => exact body
  | _ => exact wpAny_pure hq
 | _ => exact wpAny_pure hq
structure OwnIt (C : Cx) (ρ : List Addr) (I J : Addr) : Prop where
 i : I ∉ ρ ∧ C.base.objs.size ≤ I
 j : J ∉ ρ ∧ C.base.objs.size ≤ J
noncomputable def fw : Src → Expr → Bool
 | .enum _ _, .Tuple .. => true
 | .enum _ _, _ => false
 | _, _ => true
theorem mf {o : Obj} {T : String} (hc : o.cls = .type T) (hT : (Value.type T == Value.type "tuple") = false) : ¬ gv o := fun q => by
 have q1 := q.1
 rw [hc] at q1
 rw [q1] at hT
 revert hT; decide
theorem qm {src : Src} {i : Nat} {I J : Addr} (O : OwnIt C ρ I J) (x : ItAt ρ h src i I J) : ∀ b, two I J b → b ∉ ρ ∧ C.base.objs.size ≤ b ∧ ∀ o, h.get? b = some o → ¬ gv o := by
 have hI : ∀ {T : String}, (∃ o, h.get? I = some o ∧ o.cls = .type T) → (Value.type T == Value.type "tuple") = false → ∀ o, h.get? I = some o → ¬ gv o := fun q hT o' ho' => by
  obtain ⟨o, ho, hc⟩ := q
  rw [ho] at ho'; cases ho'; exact mf hc hT
 have hJ : ∀ {T : String}, (∃ o, h.get? J = some o ∧ o.cls = .type T) → (Value.type T == Value.type "tuple") = false → ∀ o, h.get? J = some o → ¬ gv o := fun q hT o' ho' => by
  obtain ⟨o, ho, hc⟩ := q
  rw [ho] at ho'; cases ho'; exact mf hc hT
 rintro b (rfl | rfl)
 ·refine ⟨O.i.1, O.i.2, ?_⟩
  cases src with
  | list j xs => obtain ⟨rfl, l, ξ, o, ho, hc, ξ⟩ := x; exact hI ⟨o, ho, hc⟩ (by decide)
  | dict j es n => obtain ⟨rfl, l, ep, ξ, ⟨o, ho, hc, ξ⟩, ξ⟩ := x; exact hI ⟨o, ho, hc⟩ (by decide)
  | vals j es n => obtain ⟨rfl, l, ep, ξ, ⟨o, ho, hc, ξ⟩, ξ⟩ := x; exact hI ⟨o, ho, hc⟩ (by decide)
  | range lo n => obtain ⟨rfl, ho⟩ := x; exact hI ⟨_, ho, rfl⟩ (by decide)
  | enum j xs => obtain ⟨ξ, l, old, ξ, ho, ξ⟩ := x; exact hI ⟨_, ho, rfl⟩ (by decide)
 ·refine ⟨O.j.1, O.j.2, ?_⟩
  cases src with
  | list j xs => obtain ⟨rfl, l, ξ, o, ho, hc, ξ⟩ := x; exact hJ ⟨o, ho, hc⟩ (by decide)
  | dict j es n => obtain ⟨rfl, l, ep, ξ, ⟨o, ho, hc, ξ⟩, ξ⟩ := x; exact hJ ⟨o, ho, hc⟩ (by decide)
  | vals j es n => obtain ⟨rfl, l, ep, ξ, ⟨o, ho, hc, ξ⟩, ξ⟩ := x; exact hJ ⟨o, ho, hc⟩ (by decide)
  | range lo n => obtain ⟨rfl, ho⟩ := x; exact hJ ⟨_, ho, rfl⟩ (by decide)
  | enum j xs => obtain ⟨ξ, l, old, ξ, ξ, ⟨o, ho, hc, ξ⟩⟩ := x; exact hJ ⟨o, ho, hc⟩ (by decide)
theorem EpAt.same {h' : Heap} {d : Addr} {ep : Nat} (x : EpAt h d ep) (k : ∀ o, h.get? d = some o → h'.get? d = some o) : EpAt h' d ep := by obtain ⟨o, es, ho, hd⟩ := x; exact ⟨o, es, k o ho, hd⟩
@[reducible] noncomputable def NextQ (C : Cx) (A : Around) (E : Value → Shared → Prop) (tgt : Expr) (I : Addr) (Q : Value → Shared → Prop) : Option Value → Shared → Prop := fun r s₁ => ∃ rv, r = some rv ∧ wpAny C.M A (letOwnedTupleGo tgt (.ref I) rv) (fun ξ s₂ => Q rv s₂) E s₁
@[reducible] noncomputable def KN (C : Cx) (ρ : List Addr) (H : MH) (s : Shared) (src : Src) (i : Nat) (I J : Addr) (v : V) (Q : Value → Shared → Prop) : Prop := ∀ h' tk rv, Post C ρ H H (two I J) s.heap h' ρ → ItAt ρ h' src i I J → Rel ρ h' v rv → Q rv (sw s h' tk)
theorem qn {A : Around} {E : Value → Shared → Prop} {s : Shared} {src : Src} {i : Nat} {I J : Addr} {tgt : Expr} {v : V} {Q : Value → Shared → Prop} (o : C.Ok) (R : Rep C ρ H s.heap) (x : ItAt ρ s.heap src i I J) (O : OwnIt C ρ I J) (ok : src.ok H)
  (hv : src.items[i]? = some v) (ht : fw src tgt = true)
  (hQ : KN C ρ H s src (i + 1) I J v Q) : wpAny C.M A (pyNext (.ref I)) (NextQ C A E tgt I Q) E s := by
 have sd := qm O x
 have side : ∀ h', Heap.SameBut I s.heap h' → Post C ρ H H (two I J) s.heap h' ρ := fun h' hs => Post.side R (fun b o' n e => (hs.2 b fun q => n (.inl q)).trans e) sd (Nat.le_of_eq hs.1.symm)
 cases src with
 | list j xs =>
  obtain ⟨rfl, l, hl, hit⟩ := x
  obtain ⟨vs, n, ho, rl⟩ := R.at' ok hl
  obtain ⟨rv, h1, h2⟩ := rl.get hv
  refine wpAny_pyNext_list_item hit ⟨_, ho, rfl, n, rfl⟩ (by simpa using h1) fun h' hit' hs => ⟨rv, rfl, ?_⟩
  have P := side h' hs
  obtain ⟨oi, hoi, hci, ξ⟩ := id hit'
  exact i7 hoi hci (by decide) (hQ h' s.toks rv P ⟨rfl, l, hl, hit'⟩ (h2.post P))
 | dict j es n =>
  obtain ⟨rfl, d, ep, hd, hit, hep⟩ := x
  have ob : ObjAt C ρ s.heap d (.dict es n) := R.at' ok hd
  obtain ⟨od, des, ep', raw, hsz, hk⟩ := gS ob
  obtain rfl := raw.same hep
  rw [k9, List.getElem?_map, Option.map_eq_some_iff] at hv
  obtain ⟨e, he, rfl⟩ := hv
  obtain ⟨de, h1, h2⟩ := hk i e he
  rw [← hsz] at hit
  refine nF hit raw h1 fun h' hit' hs => ⟨de.key, rfl, ?_⟩
  have P := side h' hs
  obtain ⟨oi, hoi, hci, ξ⟩ := id hit'
  rw [hsz] at hit'
  have hdI : d ≠ J := fun q => (sd J (.inl rfl)).1 (q ▸ List.mem_of_getElem? hd)
  exact i7 hoi hci (by decide) (hQ h' s.toks _ P ⟨rfl, d, _, hd, hit', hep.same fun o e => (hs.2 d hdI).trans e⟩ (h2.post P))
 | vals j es n =>
  obtain ⟨rfl, d, ep, hd, hit, hep⟩ := x
  have ob : ObjAt C ρ s.heap d (.dict es n) := R.at' ok.1 hd
  obtain ⟨kvs, hdo, a2⟩ := fG ob ok.2
  obtain ⟨ep', hda⟩ := hdo.dictAt
  have hdi := id hda
  obtain ⟨od, des, hod, hxd, hdd, ξ⟩ := hdi
  obtain rfl := RawD.same ⟨hod, hxd, hdd⟩ hep
  rw [k7, List.getElem?_map, Option.map_eq_some_iff] at hv
  obtain ⟨e, he, rfl⟩ := hv
  obtain ⟨⟨k1, v1⟩, hb, e1, e2⟩ := a2.get he
  rw [a2.length] at hit
  refine wpAny_pyNext_values_item hit hda hb fun h' hit' hs => ⟨v1, rfl, ?_⟩
  have P := side h' hs
  obtain ⟨oi, hoi, hci, ξ⟩ := id hit'
  rw [← a2.length] at hit'
  have hdI : d ≠ J := fun q => (sd J (.inl rfl)).1 (q ▸ List.mem_of_getElem? hd)
  exact i7 hoi hci (by decide) (hQ h' s.toks _ P ⟨rfl, d, _, hd, hit', hep.same fun o e => (hs.2 d hdI).trans e⟩ (e2.post P))
 | range lo n =>
  obtain ⟨rfl, hit⟩ := x
  rw [jP, List.getElem?_map, Option.map_eq_some_iff] at hv
  obtain ⟨y, hy, rfl⟩ := hv
  obtain ⟨hlt, rfl⟩ := List.getElem?_eq_some_iff.mp hy
  rw [List.length_range] at hlt
  refine wpAny_pyNext_range_item hit (by omega) fun h' hit' hs => ⟨_, rfl, ?_⟩
  have P := side h' hs
  refine i7 hit' rfl (by decide) (hQ h' _ _ P ⟨rfl, ?_⟩ ?_)
  ·have e1 : lo + (i : Int) * 1 + 1 = lo + ((i + 1 : Nat) : Int) * 1 := by push_cast; omega
   have e2 : (n : Int) - (i : Nat) - 1 = (n : Int) - ((i + 1 : Nat) : Int) := by push_cast; omega
   rw [← e1, ← e2]; exact hit'
  ·refine ⟨s.toks, ?_⟩
   simp
 | enum j xs =>
  obtain ⟨hne, l, old, hl, he, hit⟩ := x
  obtain ⟨vs, n, ho, rl⟩ := R.at' ok hl
  rw [k8, iZ, Option.map_eq_some_iff] at hv
  obtain ⟨u, hu, rfl⟩ := hv
  obtain ⟨rv, h1, h2⟩ := rl.get hu
  refine dd (wpAny_pyNext_enum_item he hit ⟨_, ho, rfl, n, rfl⟩ (by simpa using h1) hne fun h₁ he₁ hit₁ htu hz₁ k₁ hh => ⟨_, rfl, ?_⟩)
  cases tgt with
  | Tuple elts q p =>
   refine wpAny_letOwnedTupleGo_enum he₁ fun h₂ he₂ hs₂ => ?_
   have hs₂' : Heap.SameBut I h₁ h₂ := hs₂
   have P : Post C ρ H H (two I J) s.heap h₂ ρ := Post.side R (fun b o' nb e => (hs₂'.2 b fun q => nb (.inl q)).trans (k₁ b o' (fun q => nb (.inl q)) (fun q => nb (.inr q)) e)) sd (by
    have := hs₂'.1
    rw [this, hz₁]; omega)
   have hlt : I < s.heap.objs.size := Heap.lt_size he
   have ht₂ : h₂.get? s.heap.objs.size = some { cls := .type "tuple", data := .seq #[.int i s.toks, rv] } := (hs₂'.2 _ (Nat.ne_of_gt hlt)).trans htu
   refine hQ h₂ _ _ P ⟨hne, l, rv, hl, ?_, ?_⟩ ?_
   ·have e1 : ((i : Int) + 1) = ((i + 1 : Nat) : Int) := by push_cast; rfl
    rw [← e1]; exact he₂
   ·exact hit₁.at fun o e => (hs₂'.2 J (Ne.symm hne)).trans e
   ·refine ⟨_, [.int i s.toks, rv], rfl, ⟨_, _, 0, ht₂, rfl, rfl, rfl⟩, .cons ?_ (.cons (h2.post P) .nil)⟩
    exact ⟨s.toks, by simp⟩
  | _ => cases ht
theorem it_end {A : Around} {E : Value → Shared → Prop} {s : Shared} {src : Src} {i : Nat} {I J : Addr} {Q : Option Value → Shared → Prop} (o : C.Ok) (rm : A.handled = none) (R : Rep C ρ H s.heap) (x : ItAt ρ s.heap src i I J) (O : OwnIt C ρ I J) (ok : src.ok H)
  (hi : i = src.items.length) (hQ : ∀ h' tk, Post C ρ H H (two I J) s.heap h' ρ → Q none (sw s h' tk)) : wpAny C.M A (pyNext (.ref I)) Q E s := by
 have sd := qm O x
 have side : ∀ h', Heap.ExtBut I s.heap h' → s.heap.objs.size ≤ h'.objs.size → Post C ρ H H (two I J) s.heap h' ρ := fun h' hs hz => Post.side R (fun b o' n e => hs b o' (fun q => n (.inl q)) e) sd hz
 cases src with
 | list j xs =>
  obtain ⟨rfl, l, hl, hit⟩ := x
  obtain ⟨vs, n, ho, rl⟩ := R.at' ok hl
  have hz : vs.size = xs.length := by rw [← rl.length]; simp
  refine dd (wpAny_pyNext_list_end rm hit ⟨_, ho, rfl, n, rfl⟩ (by rw [hi]; simp [pK, hz]) fun h' hs hle => ?_)
  exact hQ h' s.toks (side h' hs hle)
 | dict j es n =>
  obtain ⟨rfl, d, ep, hd, hit, hep⟩ := x
  have ob : ObjAt C ρ s.heap d (.dict es n) := R.at' ok hd
  obtain ⟨od, des, ep', raw, hsz, hk⟩ := gS ob
  obtain rfl := raw.same hep
  have hi' : i = des.size := by rw [hi, hsz]; simp [k9]
  rw [← hsz, hi'] at hit
  exact dd (p5 rm hit raw fun h' hs hle => hQ h' s.toks (side h' hs hle))
 | vals j es n =>
  obtain ⟨rfl, d, ep, hd, hit, hep⟩ := x
  have ob : ObjAt C ρ s.heap d (.dict es n) := R.at' ok.1 hd
  obtain ⟨kvs, hdo, a2⟩ := fG ob ok.2
  obtain ⟨ep', hda⟩ := hdo.dictAt
  have hdi := id hda
  obtain ⟨od, des, hod, hxd, hdd, ξ⟩ := hdi
  obtain rfl := RawD.same ⟨hod, hxd, hdd⟩ hep
  rw [a2.length] at hit
  exact dd (wpAny_pyNext_values_end rm hit hda (by rw [hi]; simp [k7, a2.length]) fun h' hs hle => hQ h' s.toks (side h' hs hle))
 | range lo n =>
  obtain ⟨rfl, hit⟩ := x
  have hi' : i = n := by rw [hi]; simp [jP]
  exact dd (wpAny_pyNext_range_end rm hit (by omega) fun h' hs hle => hQ h' s.toks (side h' hs hle))
 | enum j xs =>
  obtain ⟨hne, l, old, hl, he, hit⟩ := x
  obtain ⟨vs, n, ho, rl⟩ := R.at' ok hl
  have hz : vs.size = xs.length := by rw [← rl.length]; simp
  have hn : ∀ (k : Nat) (ys : List V), (b9 k ys).length = ys.length := by
   intro k ys
   induction ys generalizing k with
   | nil => rfl
   | cons y ys ih => simp [b9, ih]
  refine dd (wpAny_pyNext_enum_end rm he hit ⟨_, ho, rfl, n, rfl⟩ (by rw [hi]; simp [k8, hz, hn]) fun h' hs hle => ?_)
  exact hQ h' s.toks (Post.side R (fun b o' nb e => hs b o' (fun q => nb (.inr q)) e) sd hle)
end
noncomputable abbrev TM := V → Loc → Option Loc
noncomputable def aT (i : Nat) : TM := fun v loc => some (loc.set i (some v))
noncomputable def eX (i j : Nat) : TM := fun v loc => match v with
 | .tup [a, b] => some ((loc.set i (some a)).set j (some b))
 | _ => none
@[reducible] noncomputable def KT' (C : Cx) (ρ : List Addr) (H : MH) (ex : Addr → Prop) (env : Env) (s : Shared) (loc' : Loc) (Q : Unit → Shared → Prop) : Prop := ∀ h' tk, Post C ρ H H ex s.heap h' ρ → Fr0 C ρ h' env loc' → Q () (sw s h' tk)
noncomputable def eF (C : Cx) (X : Env → Addr → Prop) (sc : Scope) (tgt : Expr) (b : TM) : Prop :=
 ∀ ⦃A : Around⦄ ⦃env : Env⦄ ⦃s : Shared⦄ ⦃ρ : List Addr⦄ ⦃H : MH⦄ ⦃loc : Loc⦄ ⦃v : V⦄ ⦃rv : Value⦄ ⦃loc' : Loc⦄ ⦃Q : Unit → Shared → Prop⦄ ⦃E : Value → Shared → Prop⦄, C.Ok → A.handled = none → env.scope = sc → Rep C ρ H s.heap → Fr0 C ρ s.heap env loc → Rel ρ s.heap v rv →
  b v loc = some loc' → KT' C ρ H (X env) env s loc' Q → wpAny C.M A (assign tgt env rv) Q E s
noncomputable abbrev dM (env : Env) : Addr → Prop := fun b => b = env.locals
noncomputable def kdOk (X : Bool) : NameKind → Bool
 | .local => true
 | .cell => X
 | _ => false
theorem kdOk_lc {kd : NameKind} (h : kdOk true kd = true) : kd = .local ∨ kd = .cell := by cases kd <;> first | exact .inl rfl | exact .inr rfl | cases h
theorem kdOk_l {kd : NameKind} (h : kdOk false kd = true) : kd = .local := by cases kd <;> first | rfl | cases h
noncomputable def exOf (X : Bool) : Env → Addr → Prop := if X then own else dM
section
variable {C : Cx} {k : Nat} {sc : Scope}
theorem jl {X : Bool} {A : Around} {E : Value → Shared → Prop} {s : Shared} {ρ : List Addr} {H : MH} {env : Env} {loc : Loc} (F : Fr0 C ρ s.heap env loc) (R : Rep C ρ H s.heap) {i : Nat} {x : Str} {kd : NameKind} {v : V} {rv : Value} {Q : Unit → Shared → Prop}
  (hi : env.scope.names[i]? = some (x, kd)) (hk : kdOk X kd = true) (hv : Rel ρ s.heap v rv)
  (h : ∀ h' tk, Post C ρ H H (exOf X env) s.heap h' ρ → Fr0 C ρ h' env (loc.set i (some v)) → Q () (sw s h' tk)) : wpAny C.M A (storeName env x rv) Q E s := by
 cases X with
 | true => exact F.store R hi (kdOk_lc hk) hv h
 | false => exact F.storeX (ex := dM env) R hi (.inl (kdOk_l hk)) hv (fun ξ => rfl) (fun e => by subst e; cases hk) h
theorem aJ {X : Bool} {x : Str} {p : Pos} {i : Nat} {kd : NameKind} (hi : sc.names[i]? = some (x, kd)) (hk : kdOk X kd = true) : eF C (exOf X) sc (.Name x p) (aT i) := fun A env s ρ H loc v rv loc' Q E o rm hs R F r e hQ => by
 subst hs
 cases e
 exact assign_Name (jl F R hi hk r hQ)
theorem qB {i j : Nat} {v : V} {loc loc' : Loc} (e : eX i j v loc = some loc') : ∃ a b, v = .tup [a, b] ∧ (loc.set i (some a)).set j (some b) = loc' := by
 cases v with
 | tup l =>
  cases l with
  | nil => exact nul e
  | cons a l =>
   cases l with
   | nil => exact nul e
   | cons b l =>
    cases l with
    | nil => exact ⟨a, b, rfl, Option.some.inj e⟩
    | cons ξ ξ => exact nul e
 | _ => exact nul e
theorem cn {X : Bool} {x y : Str} {n : Nat} {px py p : Pos} {i j : Nat} {kd kd' : NameKind} (hi : sc.names[i]? = some (x, kd)) (hk : kdOk X kd = true) (hj : sc.names[j]? = some (y, kd')) (hk' : kdOk X kd' = true) : eF C (exOf X) sc (.Tuple [.Name x px, .Name y py] n p) (eX i j) := fun A env s ρ H loc v rv loc' Q E o rm hs R F r e hQ => by
 subst hs
 obtain ⟨a, b, rfl, rfl⟩ := qB e
 obtain ⟨t, vs, rfl, ⟨ob, items, m, ho, hc, hd, rfl⟩, rl⟩ := r.tup_
 obtain ⟨u, us, e1, r1, rl⟩ := rl.uncons
 obtain ⟨w, ws, e2, r2, rl⟩ := rl.uncons
 cases rl.unnil
 subst e2
 have hsz : items.size = 2 := by
  have : items.toList.length = 2 := by rw [e1]; rfl
  simpa using this
 rw [PyProof.Rows.assign_Tuple]
 refine wpAny_bind (wpAny_standAt ?_)
 unfold unpack
 have hu : wpAny C.M A (unpackItems (.ref t) 2 none) (fun its s₁ => wpAny C.M A (assignInOrder [assign (.Name x px) env, assign (.Name y py) env] its) Q E s₁) E s := by
  rw [← hsz]
  refine dd (unpackItems_tuple rm (⟨ob, ho, hc, m, hd⟩ : IsTup s.heap t items) fun h₁ hx big => ?_)
  rw [e1]
  have kp : ∀ b o, s.heap.get? b = some o → h₁.get? b = some o := fun b o e => hx b o (Nat.ne_of_lt (Heap.lt_size e)) e
  have P₁ : Post C ρ H H (exOf X env) s.heap h₁ ρ := Post.keeps R kp big
  have P₁' : Post C ρ H H no s.heap h₁ ρ := Post.keeps R kp big
  refine assignInOrder_cons (assign_Name (jl (F.post P₁') P₁.rep hi hk (r1.post P₁) fun h₂ tk₂ P₂ F₂ => ?_))
  refine assignInOrder_cons (assign_Name (jl F₂ P₂.rep hj hk' ((r2.post P₁).post P₂) fun h₃ tk₃ P₃ F₃ => assignInOrder_nil ?_))
  exact hQ h₃ tk₃ (P₁.trans0 (P₂.trans0 P₃)) F₃
 exact wpAny_bind (wpAny_holding hu)
end
noncomputable def fN (b : TM) (f : EM V) : SM := fun loc => bnd (f loc) fun v H => match b v loc with
 | some loc' => some ((.next, loc'), H)
 | none => none
noncomputable def ip (i j : Nat) : TM := fun v loc => match v with
 | .tup [a, b] => some ((loc.set j (some b)).set i (some a))
 | _ => none
section
variable {C : Cx} {k : Nat} {sc : Scope}
theorem g5 {e : Expr} {elts : List Expr} {n : Nat} {p pos : Pos} {f : EM V} {b : TM} (h : SimE C k sc e f) (ht : eF C own sc (.Tuple elts n p) b) (hs : ∀ env, swapsWithSole [.Tuple elts n p] e pos.line env = pure false)
  (hw : ∀ env : Env, env.scope = sc → swappedStores [.Tuple elts n p] e env = pure none) : SimS C k sc (.Assign [.Tuple elts n p] e pos) (fN b f) := fun A env s ρ H loc x loc' H' Q E o rm hsc R F e hQ => by
 obtain ⟨v, H₁, e₁, e⟩ := an e
 try dsimp only at e
 split at e
 ·rename_i loc₁ hb
  cases e
  refine Assign_Tuple (h o rm hsc R F e₁ fun ρ₁ h₁ tk₁ rv P₁ r₁ => ?_) (hs env) (hw env hsc)
  exact ht o rm.hd hsc P₁.rep (F.post P₁) r₁ hb fun h₂ tk₂ P₂ F₂ => hQ ρ₁ h₂ tk₂ _ (P₁.own.trans0 P₂) F₂ rfl
 ·exact nul e
theorem oP {i j : Nat} {v : V} {loc loc' : Loc} (e : ip i j v loc = some loc') : ∃ a b, v = .tup [a, b] ∧ (loc.set j (some b)).set i (some a) = loc' := by
 cases v with
 | tup l =>
  cases l with
  | nil => exact nul e
  | cons a l =>
   cases l with
   | nil => exact nul e
   | cons b l =>
    cases l with
    | nil => exact ⟨a, b, rfl, Option.some.inj e⟩
    | cons ξ ξ => exact nul e
 | _ => exact nul e
theorem gc {e : Expr} {x y : Str} {px py : Pos} {n : Nat} {p pos : Pos} {f : EM V} {i j : Nat} (h : SimE C k sc e f) (hi : sc.names[i]? = some (x, .local)) (hj : sc.names[j]? = some (y, .local))
  (hs : ∀ env, swapsWithSole [.Tuple [.Name x px, .Name y py] n p] e pos.line env = pure false)
  (hw : ∀ env : Env, env.scope = sc → swappedStores [.Tuple [.Name x px, .Name y py] n p] e env = pure (some [x, y])) : SimS C k sc (.Assign [.Tuple [.Name x px, .Name y py] n p] e pos) (fN (ip i j) f) := fun A env s ρ H loc z loc' H' Q E o rm hsc R F e hQ => by
 obtain ⟨v, H₁, e₁, e⟩ := an e
 try dsimp only at e
 split at e
 ·rename_i loc₁ hb
  cases e
  subst hsc
  refine Assign_Tuple_swapped (names := [x, y]) (h o rm rfl R F e₁ fun ρ₁ h₁ tk₁ rv P₁ r₁ => ?_) (hs env) (hw env rfl)
  obtain ⟨a, b, rfl, rfl⟩ := oP hb
  ·obtain ⟨t, vs, rfl, ⟨ob, items, m, ho, hc, hd, rfl⟩, rl⟩ := r₁.tup_
   obtain ⟨u, us, w1, r1, rl⟩ := rl.uncons
   obtain ⟨w, ws, w2, r2, rl⟩ := rl.uncons
   cases rl.unnil
   subst w2
   have hsz : items.size = 2 := by
    have : items.toList.length = 2 := by rw [w1]; rfl
    simpa using this
   show wpAny C.M A (unpackItems (.ref t) 2 none) _ _ _
   rw [← hsz]
   refine dd (unpackItems_tuple rm.hd (⟨ob, ho, hc, m, hd⟩ : IsTup _ t items) fun h₂ hx big => ?_)
   rw [w1]
   have kp : ∀ b o, h₁.get? b = some o → h₂.get? b = some o := fun b o e => hx b o (Nat.ne_of_lt (Heap.lt_size e)) e
   have P₂ : Post C ρ₁ H' H' (own env) h₁ h₂ ρ₁ := Post.keeps P₁.rep kp big
   have P₂' : Post C ρ₁ H' H' no h₁ h₂ ρ₁ := Post.keeps P₁.rep kp big
   show wpAny C.M A (assignInOrder [bindName env y, bindName env x] [w, u]) _ _ _
   refine assignInOrder_cons (bindName_ (((F.post P₁).post P₂').store P₂.rep hj (.inl rfl) (r2.post P₂) fun h₃ tk₃ P₃ F₃ => ?_))
   refine assignInOrder_cons (bindName_ (F₃.store P₃.rep hi (.inl rfl) ((r1.post P₂).post P₃) fun h₄ tk₄ P₄ F₄ => assignInOrder_nil ?_))
   exact hQ ρ₁ h₄ tk₄ _ (P₁.own.trans0 (P₂.trans0 (P₃.trans0 P₄))) F₄ rfl
 ·exact nul e
end
@[reducible] noncomputable def KI (C : Cx) (ρ : List Addr) (H H' : MH) (s : Shared) (src : Src) (Q : Value → Shared → Prop) : Prop := ∀ ρ' h' tk I J, Post C ρ H H' no s.heap h' ρ' → ItAt ρ' h' src 0 I J → OwnIt C ρ' I J → s.heap.objs.size ≤ I → s.heap.objs.size ≤ J → src.ok H' → Q (.ref I) (sw s h' tk)
noncomputable def io (C : Cx) (k : Nat) (sc : Scope) (e : Expr) (f : EM Src) : Prop :=
 ∀ ⦃A : Around⦄ ⦃env : Env⦄ ⦃s : Shared⦄ ⦃ρ : List Addr⦄ ⦃H : MH⦄ ⦃loc : Loc⦄ ⦃src : Src⦄ ⦃H' : MH⦄ ⦃Q : Value → Shared → Prop⦄ ⦃E : Value → Shared → Prop⦄, C.Ok → Room A k → env.scope = sc → Rep C ρ H s.heap → Fr0 C ρ s.heap env loc →
  f loc H = some (src, H') → KI C ρ H H' s src Q →
  wpAny C.M A (eval e env) (fun x s₁ => wpAny C.M A (pyIter x) Q E s₁) E s
noncomputable def i4 (v : V) : OM Src := fun H => match v with
 | .ref l => match H[l]? with
  | some (.list xs) => some (.list l xs, H)
  | some (.dict es n) => some (.dict l es n, H)
  | _ => none
 | _ => none
noncomputable def itV (f : EM V) : EM Src := fun loc => bnd (f loc) i4
noncomputable def dJ (l : List V) : OM Src := fun H => match l with
 | [.int b] => if -1000000 ≤ b ∧ b ≤ 1000000 then some (.range 0 b.toNat, H) else none
 | [.int a, .int b] => if -1000000 ≤ a ∧ a ≤ 1000000 ∧ -1000000 ≤ b ∧ b ≤ 1000000 then some (.range a (b - a).toNat, H) else none
 | _ => none
noncomputable def jM (l : List V) : OM Src := fun H => match l with
 | [.ref l] => match H[l]? with
  | some (.list xs) => some (.enum l xs, H)
  | _ => none
 | _ => none
noncomputable def itL (m : List V → OM Src) (f : EM (List V)) : EM Src := fun loc => bnd (f loc) m
section
variable {C : Cx} {k : Nat} {sc : Scope} {ρ : List Addr} {H : MH} {h : Heap}
theorem fP (R : Rep C ρ H h) {I J : Addr} (hI : h.objs.size ≤ I) (hJ : h.objs.size ≤ J) : OwnIt C ρ I J :=
 ⟨⟨fun q => absurd (R.lt q) (Nat.not_lt.mpr hI), Nat.le_trans R.size hI⟩, ⟨fun q => absurd (R.lt q) (Nat.not_lt.mpr hJ), Nat.le_trans R.size hJ⟩⟩
inductive IterI (v : V) (H : MH) (src : Src) (H' : MH) : Prop
 | list (l : Nat) (xs : List V) (hv : v = .ref l) (hl : H[l]? = some (.list xs)) (hs : src = .list l xs) (hH : H' = H) : IterI v H src H'
 | dict (l : Nat) (es : List (Key × V)) (n : Nat) (hv : v = .ref l) (hl : H[l]? = some (.dict es n)) (hs : src = .dict l es n) (hH : H' = H) : IterI v H src H'
theorem mn {v : V} {H H' : MH} {src : Src} (e : i4 v H = some (src, H')) : IterI v H src H' := by
 unfold i4 at e
 cases v with
 | ref l =>
  dsimp only at e
  cases hl : H[l]? with
  | none => rw [hl] at e; exact nul e
  | some m =>
   rw [hl] at e
   cases m with
   | list xs => cases e; exact .list l xs rfl hl rfl rfl
   | dict es n => cases e; exact .dict l es n rfl hl rfl rfl
   | _ => exact nul e
 | _ => exact nul e
theorem aQ {e : Expr} {f : EM V} (hf : SimE C k sc e f) : io C k sc e (itV f) := fun A env s ρ H loc src H' Q E o rm hsc R F e hQ => by
 obtain ⟨v, H₁, e₁, e⟩ := an e
 refine hf o rm hsc R F e₁ fun ρ₁ h₁ tk₁ rv P₁ r₁ => ?_
 have hle := P₁.size
 have Pp : ∀ ob : Obj, Post C ρ H H₁ no s.heap (h₁.push ob) ρ₁ := fun ob => P₁.transN (Post.keeps (ex := no) P₁.rep (fun b x e => Heap.get?_push_of_some _ e) (cv h₁ ob))
 cases mn e with
 | list l xs hv hl hs hH =>
  ·subst hv hs hH
   obtain ⟨a, vs, n, rfl, ha, ho, rl, hz⟩ := bU P₁.rep hl r₁
   refine wpAny_pyIter_list ⟨_, ho, rfl, n, rfl⟩ ?_
   exact hQ ρ₁ _ _ h₁.objs.size h₁.objs.size (Pp _) ⟨rfl, a, ha, ⟨_, Heap.get?_push_size _ rfl, rfl, rfl⟩⟩ (fP P₁.rep (Nat.le_refl _) (Nat.le_refl _)) hle hle hl
 | dict l es n hv hl hs hH =>
  ·subst hv hs hH
   obtain ⟨a, rfl, ha, ob⟩ := cX P₁.rep ⟨n, hl⟩ r₁
   obtain ⟨od, des, ep, raw, hsz, ξ⟩ := gS ob
   refine nE (eR o P₁.rep ha) raw ?_
   refine hQ ρ₁ _ _ h₁.objs.size h₁.objs.size (Pp _) ⟨rfl, a, ep, ha, ?_, ⟨od, des, Heap.get?_push_of_some _ raw.get, raw.data⟩⟩ (fP P₁.rep (Nat.le_refl _) (Nat.le_refl _)) hle hle hl
   rw [← hsz]
   exact ⟨_, Heap.get?_push_size _ rfl, rfl, rfl⟩
inductive RangeI (l : List V) (H : MH) (src : Src) (H' : MH) : Prop
 | one (b : Int) (e : l = [.int b]) (h : -1000000 ≤ b ∧ b ≤ 1000000) (hs : src = .range 0 b.toNat) (hH : H' = H)
 | two (a b : Int) (e : l = [.int a, .int b]) (h : -1000000 ≤ a ∧ a ≤ 1000000 ∧ -1000000 ≤ b ∧ b ≤ 1000000) (hs : src = .range a (b - a).toNat) (hH : H' = H)
theorem kX {l : List V} {H H' : MH} {src : Src} (e : dJ l H = some (src, H')) : RangeI l H src H' := by
 cases l with
 | nil => exact nul e
 | cons v r =>
  cases v with
  | int a =>
   cases r with
   | nil =>
    unfold dJ at e
    dsimp only at e
    split at e
    ·rename_i h; cases e; exact .one a rfl h rfl rfl
    ·exact nul e
   | cons w r =>
    cases r with
    | nil =>
     cases w with
     | int b =>
      unfold dJ at e
      dsimp only at e
      split at e
      ·rename_i h; cases e; exact .two a b rfl h rfl rfl
      ·exact nul e
     | _ => exact nul e
    | cons ξ ξ => cases w <;> cases e
  | _ => exact nul e
theorem ee {id : Str} {p pos : Pos} {args : List Expr} {fa : EM (List V)} (hn : SimE C k sc (.Name id p) (eC (.raw (.type "range")))) (ha : SimL C k sc args fa) (hs : dU args = true) : io C k sc (.Call (.Name id p) args [] pos) (itL dJ fa) :=
 fun A env s ρ H loc src H' Q E o rm hsc R F e hQ => by
  obtain ⟨l, H₁, ea, e⟩ := an e
  refine wpAny_Call_Name_kw (hn o rm hsc R F rfl fun ρ₀ h₀ tk₀ f P₀ r₀ => ?_)
  cases r₀.raw_
  refine eW (first := []) ha hs bR o rm hsc P₀.rep (F.post P₀) ea fun ρ₁ h₁ tk₁ vs P₁ r₁ => ?_
  have hle : s.heap.objs.size ≤ h₁.objs.size := Nat.le_trans P₀.size P₁.size
  have fin : ∀ (ob1 ob2 : Obj) (lo : Int) (n : Nat) (tk : Tok), ob2 = { cls := .type "range_iterator", data := .fields #[rawInt lo, rawInt (n : Int), rawInt 1] } → H' = H₁ → src = .range lo n →
    Q (.ref (h₁.push ob1).objs.size) (sw s ((h₁.push ob1).push ob2) tk) := by
   rintro ob1 ob2 lo n tk rfl rfl rfl
   have big : h₁.objs.size ≤ ((h₁.push ob1).push ({ cls := .type "range_iterator", data := .fields #[rawInt lo, rawInt (n : Int), rawInt 1] } : Obj)).objs.size := Nat.le_trans (cv _ _) (cv _ _)
   have P₂ := Post.keeps (ex := no) P₁.rep (fun b x e => Heap.get?_push_of_some ({ cls := .type "range_iterator", data := .fields #[rawInt lo, rawInt (n : Int), rawInt 1] } : Obj) (Heap.get?_push_of_some ob1 e)) big
   have b1 := cv h₁ ob1
   refine hQ ρ₁ _ tk (h₁.push ob1).objs.size (h₁.push ob1).objs.size (P₀.transN (P₁.transN P₂)) ⟨rfl, ?_⟩ (fP P₁.rep b1 b1) (Nat.le_trans hle b1) (Nat.le_trans hle b1) trivial
   show IsRangeIter _ _ _ _ _
   simpa using Heap.get?_push_size (h₁.push ob1) (o := { cls := .type "range_iterator", data := .fields #[rawInt lo, rawInt (n : Int), rawInt 1] }) rfl
  cases kX e with
  | one b e hb hs hH =>
   cases e
   obtain ⟨u, us, rfl, r1, rl⟩ := r₁.uncons
   cases rl.unnil
   obtain ⟨t, rfl⟩ := r1.int_
   refine call_range_1 (wpAny_pyIter_range (IsRange.new ..) (small_one (by decide) (by decide) (by omega) (by omega)) ?_)
   exact fin _ _ 0 b.toNat _ (by rw [rangeSize_nat]; simp) hH hs
  | two a b e hb hs hH =>
   cases e
   obtain ⟨u, us, rfl, r1, rl⟩ := r₁.uncons
   obtain ⟨w, ws, rfl, r2, rl⟩ := rl.uncons
   cases rl.unnil
   obtain ⟨t, rfl⟩ := r1.int_
   obtain ⟨t', rfl⟩ := r2.int_
   refine call_range_2 (wpAny_pyIter_range (IsRange.new ..) (small_one (by omega) (by omega) (by omega) (by omega)) ?_)
   exact fin _ _ a (b - a).toNat _ (by rw [rangeSize_nat]) hH hs
theorem mq {l : List V} {H H' : MH} {src : Src} (e : jM l H = some (src, H')) : ∃ j xs, l = [.ref j] ∧ H[j]? = some (.list xs) ∧ src = .enum j xs ∧ H' = H := by
 unfold jM at e
 cases l with
 | nil => exact nul e
 | cons v r =>
  cases v with
  | ref l =>
   cases r with
   | nil =>
    dsimp only at e
    cases hl : H[l]? with
    | none => rw [hl] at e; exact nul e
    | some m =>
     rw [hl] at e
     cases m with
     | list xs => cases e; exact ⟨l, xs, rfl, hl, rfl, rfl⟩
     | _ => exact nul e
   | cons ξ ξ => exact nul e
  | _ => exact nul e
theorem j6 {id : Str} {p pos : Pos} {args : List Expr} {fa : EM (List V)} (hn : SimE C k sc (.Name id p) (eC (.raw (.type "enumerate")))) (ha : SimL C k sc args fa) (hs : dU args = true) : io C k sc (.Call (.Name id p) args [] pos) (itL jM fa) :=
 fun A env s ρ H loc src H' Q E o rm hsc R F e hQ => by
  obtain ⟨l, H₁, ea, e⟩ := an e
  refine wpAny_Call_Name_kw (hn o rm hsc R F rfl fun ρ₀ h₀ tk₀ f P₀ r₀ => ?_)
  cases r₀.raw_
  refine eW (first := []) ha hs bR o rm hsc P₀.rep (F.post P₀) ea fun ρ₁ h₁ tk₁ vs P₁ r₁ => ?_
  have hle : s.heap.objs.size ≤ h₁.objs.size := Nat.le_trans P₀.size P₁.size
  obtain ⟨l, xs, rfl, hl, rfl, rfl⟩ := mq e
  obtain ⟨u, us, rfl, r1, rl⟩ := r₁.uncons
  cases rl.unnil
  obtain ⟨a, vs, n, rfl, ha', ho, rl', hz⟩ := bU P₁.rep hl r1
  refine call_enumerate_1 ho fun h₂ he hit hz₂ k₂ => wpAny_pyIter_enum he ?_
  have P₂ := Post.keeps (ex := no) P₁.rep k₂ (by rw [hz₂]; show h₁.objs.size ≤ h₁.objs.size + 2; omega)
  have b1 : h₁.objs.size ≤ h₁.objs.size + 1 := by omega
  exact hQ ρ₁ h₂ _ (h₁.objs.size + 1) h₁.objs.size (P₀.transN (P₁.transN P₂)) ⟨Nat.succ_ne_self _, a, _, ha', he, hit⟩ (fP P₁.rep b1 (Nat.le_refl _)) (Nat.le_trans hle b1) hle hl
end
open Classical in
noncomputable def bt (ok : MH → Prop) (b : TM) (body : SM) : List V → SM
 | [] => fun loc H => if ok H then some ((.next, loc), H) else none
 | v :: r => fun loc H => if ok H then (match b v loc with
  | some loc₁ => (match body loc₁ H with
   | some ((.next, loc₂), H₂) => bt ok b body r loc₂ H₂
   | some ((.cont, loc₂), H₂) => bt ok b body r loc₂ H₂
   | some ((.brk, loc₂), H₂) => some ((.next, loc₂), H₂)
   | some ((.ret u, loc₂), H₂) => some ((.ret u, loc₂), H₂)
   | none => none)
  | none => none) else none
noncomputable def sFor (it : EM Src) (b : TM) (body : SM) : SM := fun loc => bnd (it loc) fun src => bt src.ok b body src.items loc
open Classical in
theorem fO {ok : MH → Prop} {b : TM} {body : SM} {loc : Loc} {H : MH} : bt ok b body [] loc H = if ok H then some ((.next, loc), H) else none := rfl
open Classical in
theorem ge {ok : MH → Prop} {b : TM} {body : SM} {v : V} {r : List V} {loc : Loc} {H : MH} : bt ok b body (v :: r) loc H = if ok H then (match b v loc with
  | some loc₁ => (match body loc₁ H with
   | some ((.next, loc₂), H₂) => bt ok b body r loc₂ H₂
   | some ((.cont, loc₂), H₂) => bt ok b body r loc₂ H₂
   | some ((.brk, loc₂), H₂) => some ((.next, loc₂), H₂)
   | some ((.ret u, loc₂), H₂) => some ((.ret u, loc₂), H₂)
   | none => none)
  | none => none) else none := rfl
theorem kf {ok : MH → Prop} {b : TM} {body : SM} {l : List V} {loc : Loc} {H : MH} {r : (Fl × Loc) × MH} (e : bt ok b body l loc H = some r) : ok H := by
 cases l with
 | nil => rw [fO] at e; split at e; assumption; cases e
 | cons v l => rw [ge] at e; split at e; assumption; cases e
noncomputable def ci (c : EM Bool) (body : SM) : Nat → SM
 | 0 => sStuck
 | n + 1 => fun loc => bnd (c loc) fun b => if b then bnd (body loc) fun r => (match r.1 with
  | .next => ci c body n r.2
  | .cont => ci c body n r.2
  | .brk => rt (.next, r.2)
  | .ret v => rt (.ret v, r.2)) else rt (.next, loc)
theorem g8 {c : EM Bool} {body : SM} {n : Nat} {loc : Loc} {H : MH} : ci c body (n + 1) loc H = bnd (c loc) (fun b => if b then bnd (body loc) fun r => (match r.1 with
  | .next => ci c body n r.2
  | .cont => ci c body n r.2
  | .brk => rt (.next, r.2)
  | .ret v => rt (.ret v, r.2)) else rt (.next, loc)) H := rfl
open Classical in
noncomputable def eZ (c : EM Bool) (body : SM) : SM := fun loc H => if h : ∃ n r, ci c body n loc H = some r then some h.choose_spec.choose else none
theorem oZ {c : EM Bool} {body : SM} {loc : Loc} {H : MH} {r : (Fl × Loc) × MH} (e : eZ c body loc H = some r) : ∃ n, ci c body n loc H = some r := by
 unfold eZ at e
 split at e
 ·rename_i h
  cases e
  exact ⟨h.choose, h.choose_spec.choose_spec⟩
 ·exact nul e
theorem iq {c : EM Bool} {body : SM} : ∀ {n m : Nat} {loc : Loc} {H : MH} {r r' : (Fl × Loc) × MH}, ci c body n loc H = some r → ci c body m loc H = some r' → r = r'
 | 0, _, _, _, _, _, e, _ => by cases e
 | _ + 1, 0, _, _, _, _, _, e => by cases e
 | n + 1, m + 1, loc, H, r, r', e, e' => by
  rw [g8] at e e'
  obtain ⟨b, H₁, e1, e⟩ := an e
  obtain ⟨b', H₁', e1', e'⟩ := an e'
  rw [e1] at e1'; cases e1'
  cases b with
  | false => exact (Option.some.inj e).symm.trans (Option.some.inj e')
  | true =>
   obtain ⟨⟨x, loc₁⟩, H₂, e2, e⟩ := an e
   obtain ⟨⟨x', loc₁'⟩, H₂', e2', e'⟩ := an e'
   rw [e2] at e2'; cases e2'
   cases x with
   | next => exact iq e e'
   | cont => exact iq e e'
   | brk => exact (Option.some.inj e).symm.trans (Option.some.inj e')
   | ret v => exact (Option.some.inj e).symm.trans (Option.some.inj e')
theorem qT {c : EM Bool} {body : SM} {n : Nat} {loc : Loc} {H : MH} {r : (Fl × Loc) × MH} (e : ci c body n loc H = some r) : eZ c body loc H = some r := by
 unfold eZ
 have h : ∃ n r, ci c body n loc H = some r := ⟨n, r, e⟩
 rw [dif_pos h]
 exact congrArg some (iq h.choose_spec.choose_spec e)
section
variable {C : Cx} {k : Nat} {sc : Scope} {ρ ρ' : List Addr} {H H' : MH} {h h' : Heap}
theorem OwnIt.post {ex : Addr → Prop} {I J : Addr} (O : OwnIt C ρ I J) (P : Post C ρ H H' ex h h' ρ') (hI : I < h.objs.size) (hJ : J < h.objs.size) : OwnIt C ρ' I J := by
 obtain ⟨t, rfl, ht⟩ := P.ext
 refine ⟨⟨fun q => ?_, O.i.2⟩, ⟨fun q => ?_, O.j.2⟩⟩
 ·rcases List.mem_append.mp q with q | q
  ·exact O.i.1 q
  ·exact absurd (ht _ q) (Nat.not_le.mpr hI)
 ·rcases List.mem_append.mp q with q | q
  ·exact O.j.1 q
  ·exact absurd (ht _ q) (Nat.not_le.mpr hJ)
theorem ItAt.lt {src : Src} {i : Nat} {I J : Addr} (x : ItAt ρ h src i I J) : I < h.objs.size ∧ J < h.objs.size := by
 cases src with
 | list j xs => obtain ⟨rfl, l, ξ, o, ho, ξ⟩ := x; exact ⟨Heap.lt_size ho, Heap.lt_size ho⟩
 | dict j es n => obtain ⟨rfl, l, ep, ξ, ⟨o, ho, ξ⟩, ξ⟩ := x; exact ⟨Heap.lt_size ho, Heap.lt_size ho⟩
 | vals j es n => obtain ⟨rfl, l, ep, ξ, ⟨o, ho, ξ⟩, ξ⟩ := x; exact ⟨Heap.lt_size ho, Heap.lt_size ho⟩
 | range lo n => obtain ⟨rfl, ho⟩ := x; exact ⟨Heap.lt_size ho, Heap.lt_size ho⟩
 | enum j xs => obtain ⟨ξ, l, old, ξ, ho, ⟨o, ho', ξ⟩⟩ := x; exact ⟨Heap.lt_size ho, Heap.lt_size ho'⟩
theorem dk {t : List Addr} {j : Nat} {a : Addr} (e : ρ[j]? = some a) : (ρ ++ t)[j]? = some a := by
 rw [List.getElem?_append_left (List.getElem?_eq_some_iff.mp e).1]; exact e
theorem ItAt.post {ex : Addr → Prop} {src : Src} {i : Nat} {I J : Addr} (x : ItAt ρ h src i I J) (O : OwnIt C ρ I J) (P : Post C ρ H H' ex h h' ρ') (h1 : ¬ ex I) (h2 : ¬ ex J) (ok : src.ok H) (ok' : src.ok H') : ItAt ρ' h' src i I J := by
 have kI : ∀ o, h.get? I = some o → h'.get? I = some o := fun o e => P.step.oth I o e (by rintro (q | q); exact O.i.1 q; exact h1 q)
 have kJ : ∀ o, h.get? J = some o → h'.get? J = some o := fun o e => P.step.oth J o e (by rintro (q | q); exact O.j.1 q; exact h2 q)
 have vr := P.ver
 obtain ⟨t, rfl, ξ⟩ := P.ext
 have same : ∀ {d : Addr} {es : List (Key × V)} {n j : Nat}, ρ[j]? = some d → H[j]? = some (.dict es n) → H'[j]? = some (.dict es n) → h'.get? d = h.get? d := fun hd e e' => by
  obtain ⟨es', n', q1, q2, q3⟩ := vr _ _ _ _ hd e
  rw [e'] at q1; cases q1
  exact (q3 rfl).2
 cases src with
 | list j xs => obtain ⟨rfl, l, hl, hit⟩ := x; exact ⟨rfl, l, dk hl, hit.at kI⟩
 | dict j es n =>
  obtain ⟨rfl, d, ep, hd, hit, hep⟩ := x
  exact ⟨rfl, d, ep, dk hd, hit.at kI, hep.same fun o e => (same hd ok ok').trans e⟩
 | vals j es n =>
  obtain ⟨rfl, d, ep, hd, hit, hep⟩ := x
  exact ⟨rfl, d, ep, dk hd, hit.at kI, hep.same fun o e => (same hd ok.1 ok'.1).trans e⟩
 | range lo n => obtain ⟨rfl, ho⟩ := x; exact ⟨rfl, kI _ ho⟩
 | enum j xs =>
  obtain ⟨hne, l, old, hl, he, hit⟩ := x
  exact ⟨hne, l, old, dk hl, kI _ he, hit.at kJ⟩
theorem Src.ok_drop {src : Src} {i : Nat} {v : V} {r : List V} (e : src.items.drop i = v :: r) : src.items[i]? = some v ∧ src.items.drop (i + 1) = r := by
 refine ⟨?_, ?_⟩
 ·have := congrArg (fun l => l[0]?) e
  simpa [List.getElem?_drop] using this
 ·have := congrArg List.tail e
  simpa [List.tail_drop] using this
inductive LoopAt (C : Cx) (ρ₁ : List Addr) (H₁ : MH) (ex : Addr → Prop) (h₁ : Heap) (env : Env) (src : Src) (I J : Addr) (b : TM) (g : SM) (res : (Fl × Loc) × MH) (s : Shared) (n : Nat) (s' : Shared) : Prop where
 | mk (ρ' : List Addr) (h' : Heap) (tk : Nat) (H₂ : MH) (loc₂ : Loc) (i : Nat) (e0 : s' = (sw s h' tk)) (e1 : Post C ρ₁ H₁ H₂ ex h₁ h' ρ') (e2 : Fr0 C ρ' h' env loc₂) (e3 : ItAt ρ' h' src i I J) (e4 : OwnIt C ρ' I J) (e5 : i ≤ src.items.length) (e6 : n = src.items.length - i)
  (e7 : bt src.ok b g (src.items.drop i) loc₂ H₂ = some res) : LoopAt C ρ₁ H₁ ex h₁ env src I J b g res s n s'
inductive TurnE (ok : MH → Prop) (b : TM) (g : SM) (r : List V) (z : Fl) (loc' : Loc) (H' : MH) : Fl → Loc → MH → Prop
 | go {x : Fl} {loc₅ : Loc} {H₅ : MH} (h : x = .next ∨ x = .cont) (e : bt ok b g r loc₅ H₅ = some ((z, loc'), H')) : TurnE ok b g r z loc' H' x loc₅ H₅
 | brk (e : z = .next) : TurnE ok b g r z loc' H' .brk loc' H'
 | ret (u : V) (e : z = .ret u) : TurnE ok b g r z loc' H' (.ret u) loc' H'
inductive TurnI (ok : MH → Prop) (b : TM) (g : SM) (v : V) (r : List V) (loc : Loc) (H : MH) (z : Fl) (loc' : Loc) (H' : MH) : Prop
 | mk (loc₃ : Loc) (x : Fl) (loc₅ : Loc) (H₅ : MH) (hb : b v loc = some loc₃) (hg : g loc₃ H = some ((x, loc₅), H₅)) (he : TurnE ok b g r z loc' H' x loc₅ H₅) : TurnI ok b g v r loc H z loc' H'
theorem o0 {ok : MH → Prop} {b : TM} {g : SM} {v : V} {r : List V} {loc loc' : Loc} {H H' : MH} {z : Fl} (e : bt ok b g (v :: r) loc H = some ((z, loc'), H')) : TurnI ok b g v r loc H z loc' H' := by
 have k := kf e
 rw [ge, if_pos k] at e
 cases hb : b v loc with
 | none => rw [hb] at e; exact nul e
 | some loc₃ =>
  rw [hb] at e
  dsimp only at e
  cases hg : g loc₃ H with
  | none => rw [hg] at e; exact nul e
  | some q =>
   obtain ⟨⟨x, loc₅⟩, H₅⟩ := q
   rw [hg] at e
   refine ⟨loc₃, x, loc₅, H₅, hb, hg, ?_⟩
   cases x with
   | next => exact .go (.inl rfl) e
   | cont => exact .go (.inr rfl) e
   | brk => cases e; exact .brk rfl
   | ret u => cases e; exact .ret u rfl
noncomputable def TurnQ (N : Shared → Prop) (Q : Flow → Shared → Prop) : Flow → Shared → Prop := fun f s => match f with
 | .next | .cont => N s
 | .brk => Q .next s
 | .ret v => Q (.ret v) s
theorem for_turn {A : Around} {E : Value → Shared → Prop} {env : Env} {s : Shared} {ρ : List Addr} {H H₅ : MH} {loc loc₃ loc₅ : Loc} {tgt : Expr} {body : List Stmt} {b : TM} {g : SM} {src : Src} {i : Nat} {I J : Addr} {v : V} {x : Fl} {T : Flow → Shared → Prop}
  (ht : eF C own sc tgt b) (hb : fq C k sc body g) (hto : fw src tgt = true) (o : C.Ok) (rm : Room A k) (hsc : env.scope = sc) (R : Rep C ρ H s.heap) (x₂ : ItAt ρ s.heap src i I J) (O : OwnIt C ρ I J) (ok : src.ok H)
  (hv : src.items[i]? = some v) (nI : ¬ own env I ∧ ¬ own env J) (nX : ∀ {h'}, Post C ρ H H (two I J) s.heap h' ρ → Fr0 C ρ h' env loc) (e₁ : b v loc = some loc₃) (e₂ : g loc₃ H = some ((x, loc₅), H₅))
  (hT : ∀ h₄ ρ₅ h₅ tk₅ rx, Post C ρ H H (fun b => own env b ∨ two I J b) s.heap h₄ ρ → ItAt ρ h₄ src (i + 1) I J → Post C ρ H H₅ (own env) h₄ h₅ ρ₅ → Fr0 C ρ₅ h₅ env loc₅ → RelF ρ₅ h₅ x rx → T rx (sw s h₅ tk₅)) :
  wpAny C.M A (pyNext (.ref I)) (NextQ C A E tgt I fun rv s₂ => wpAny C.M A (assign tgt env rv) (fun ξ s₂ => wpAny C.M A (execs body env) T E s₂) E s₂) E s :=
 qn o R x₂ O ok hv hto fun h₃ tk₃ rv P₃ x₃ r₃ => ht o rm.hd hsc P₃.rep (nX P₃) r₃ e₁ fun h₄ tk₄ P₄ F₄ => hb o rm hsc P₄.rep F₄ e₂ fun ρ₅ h₅ tk₅ rx P₅ F₅ r₅ =>
  hT h₄ ρ₅ h₅ tk₅ rx (((Post.refl R).trans P₃ fun b q => .inl (.inr q)).trans P₄ fun b q => .inl (.inl q)) (x₃.post O P₄ nI.1 nI.2 ok ok) P₅ F₅ r₅
theorem sims_for {iter tgt : Expr} {body : List Stmt} {pos : Pos} {it : EM Src} {b : TM} {g : SM} (hi : io C k sc iter it) (ht : eF C own sc tgt b) (hb : fq C k sc body g)
  (hto : ∀ loc H src H', it loc H = some (src, H') → fw src tgt = true) (hs : ∀ env x, foldedSetIterable iter env x = pure x) : SimS C k sc (.For tgt iter body [] pos) (sFor it b g) := fun A env s ρ H loc z loc' H' Q E o rm hsc R F e hQ => by
 obtain ⟨src, H₁, e₁, e⟩ := an e
 have hto := hto _ _ _ _ e₁
 refine wpAny_For (hi o rm hsc R F e₁ fun ρ₁ h₁ tk₁ I J P₁ x₁ O₁ hI hJ ok₁ => ?_) (hs env)
 have F₁ := F.post P₁
 have lL : env.locals ≠ I ∧ env.locals ≠ J := ⟨Nat.ne_of_lt (Nat.lt_of_lt_of_le F.loc_lt hI), Nat.ne_of_lt (Nat.lt_of_lt_of_le F.loc_lt hJ)⟩
 have lC : ∀ x c, env.cells.lookup x = some c → c ≠ I ∧ c ≠ J := fun x c hc => ⟨Nat.ne_of_lt (Nat.lt_of_lt_of_le (F.cell_lt hc) hI), Nat.ne_of_lt (Nat.lt_of_lt_of_le (F.cell_lt hc) hJ)⟩
 have nI : ¬ own env I ∧ ¬ own env J := by
  refine ⟨?_, ?_⟩
  ·rintro (q | ⟨x, ξ, q⟩)
   ·exact lL.1 q.symm
   ·exact (lC x _ q).1 rfl
  ·rintro (q | ⟨x, ξ, q⟩)
   ·exact lL.2 q.symm
   ·exact (lC x _ q).2 rfl
 have nX : ∀ {ρ ρ' H H' h h' l}, Fr0 C ρ h env l → Post C ρ H H' (two I J) h h' ρ' → Fr0 C ρ' h' env l := fun F P => F.postX P (by
  rintro (q | q)
  ·exact lL.1 q
  ·exact lL.2 q) (by
  rintro x c hc (q | q)
  ·exact (lC x c hc).1 q
  ·exact (lC x c hc).2 q)
 refine codeAny_forLoop_any (LoopAt C ρ₁ H₁ (fun b => own env b ∨ two I J b) h₁ env src I J b g ((z, loc'), H') s) ?_ src.items.length ⟨ρ₁, h₁, tk₁, H₁, loc, 0, rfl, .refl P₁.rep, F₁, x₁, O₁, Nat.zero_le _, rfl, e⟩
 rintro n s' ⟨ρ₂, h₂, tk₂, H₂, loc₂, i, rfl, P₂, F₂, x₂, O₂, hle, rfl, e₂⟩
 have ok₂ := kf e₂
 have fin : ∀ {ρ' h' tk rx}, Post C ρ₁ H₁ H' (fun b => own env b ∨ two I J b) h₁ h' ρ' → Fr0 C ρ' h' env loc' → RelF ρ' h' z rx → Q rx (sw s h' tk) := fun P F r =>
  hQ _ _ _ _ ((P₁.own.trans P fun b q => by
   rcases q with q | rfl | rfl
   ·exact .inl q
   ·exact .inr hI
   ·exact .inr hJ)) F r
 cases hd : src.items.drop i with
 | nil =>
  have hi : i = src.items.length := Nat.le_antisymm hle (List.drop_eq_nil_iff.mp hd)
  rw [hd] at e₂
  rw [fO, if_pos ok₂] at e₂
  cases e₂
  refine it_end o rm.hd P₂.rep x₂ O₂ ok₂ hi fun h₃ tk₃ P₃ => ?_
  exact wpAny_execs_nil (fin (P₂.trans P₃ fun b q => .inl (.inr q)) (nX F₂ P₃) rfl)
 | cons v r =>
  obtain ⟨hv, hr⟩ := Src.ok_drop hd
  rw [hd] at e₂
  obtain ⟨loc₃, x, loc₅, H₅, hb₃, hg, he⟩ := o0 e₂
  refine wpAny_mono (for_turn (T := TurnQ (fun s₃ => ∃ m, m < src.items.length - i ∧ LoopAt C ρ₁ H₁ (fun b => own env b ∨ two I J b) h₁ env src I J b g ((z, loc'), H') s m s₃) Q) ht hb hto o rm hsc P₂.rep x₂ O₂ ok₂ hv nI (nX F₂) hb₃ hg fun h₄ ρ₅ h₅ tk₅ rx P₄ x₄ P₅ F₅ r₅ => ?_) (fun r s₁ h => ?_) fun ξ ξ q => q
  ·have P₂₅ := (P₂.trans P₄ fun b q => .inl q).trans P₅ fun b q => .inl (.inl q)
   cases he with
   | go hx e =>
    have hlt : i < src.items.length := (List.getElem?_eq_some_iff.mp hv).1
    have at' : ∃ m, m < src.items.length - i ∧ LoopAt C ρ₁ H₁ (fun b => own env b ∨ two I J b) h₁ env src I J b g ((z, loc'), H') s m (sw s h₅ tk₅) :=
     ⟨src.items.length - (i + 1), Nat.sub_succ_lt_self _ _ hlt, ρ₅, h₅, tk₅, H₅, loc₅, i + 1, rfl, P₂₅, F₅, x₄.post O₂ P₅ nI.1 nI.2 ok₂ (kf e), O₂.post P₅ x₄.lt.1 x₄.lt.2, hlt, rfl, by rw [hr]; exact e⟩
    rcases hx with rfl | rfl <;> (cases r₅; exact at')
   | brk e => subst e; cases r₅; exact fin P₂₅ F₅ rfl
   | ret u e => subst e; obtain ⟨ru, rfl, r₅⟩ := r₅; exact fin P₂₅ F₅ ⟨ru, rfl, r₅⟩
  ·obtain ⟨rv, rfl, h⟩ := h
   exact h
inductive WhileAt (C : Cx) (ρ : List Addr) (H : MH) (env : Env) (s : Shared) (c : EM Bool) (f : SM) (res : (Fl × Loc) × MH) (n : Nat) (s' : Shared) : Prop
 | mk (ρ' : List Addr) (h' : Heap) (tk : Nat) (H₂ : MH) (loc₂ : Loc) (e0 : s' = sw s h' tk) (P : Post C ρ H H₂ (own env) s.heap h' ρ') (F : Fr0 C ρ' h' env loc₂) (e : ci c f n loc₂ H₂ = some res) : WhileAt C ρ H env s c f res n s'
theorem oN {A : Around} {E : Value → Shared → Prop} {env : Env} {s : Shared} {ρ : List Addr} {H H' : MH} {loc loc' : Loc} {test : Expr} {body : List Stmt} {c : EM Bool} {f : SM} {z : Fl} {n : Nat} {N D : Shared → Prop} {Q : Flow → Shared → Prop}
  (ht : SimB C k sc test c) (hb : fq C k sc body f) (o : C.Ok) (rm : Room A k) (hsc : env.scope = sc) (R : Rep C ρ H s.heap) (F : Fr0 C ρ s.heap env loc) (e : ci c f (n + 1) loc H = some ((z, loc'), H'))
  (hN : ∀ ρ' h' tk H₂ loc₂, Post C ρ H H₂ (own env) s.heap h' ρ' → Fr0 C ρ' h' env loc₂ → ci c f n loc₂ H₂ = some ((z, loc'), H') → N (sw s h' tk))
  (hQ : ∀ ρ' h' tk rx, Post C ρ H H' (own env) s.heap h' ρ' → Fr0 C ρ' h' env loc' → RelF ρ' h' z rx → Q rx (sw s h' tk)) (hD : ∀ s, Q .next s → D s) :
  wpAny C.M A (isTrue test env (eval test env)) (fun b s₂ => if b = true then wpAny C.M A (execs body env) (TurnQ N Q) E s₂ else D s₂) E s := by
 rw [g8] at e
 obtain ⟨u, H₃, e₃, e⟩ := an e
 refine ht o rm hsc R F e₃ fun ρ₃ h₃ tk₃ ru P₃ r₃ => ?_
 subst r₃
 cases ru with
 | false =>
  cases e
  exact hD _ (hQ _ _ _ _ P₃.own (F.post P₃) rfl)
 | true =>
  obtain ⟨⟨x, loc₄⟩, H₄, e₄, e⟩ := an e
  refine hb o rm hsc P₃.rep (F.post P₃) e₄ fun ρ₄ h₄ tk₄ rx P₄ F₄ r₄ => ?_
  have P₂₄ := P₃.own.trans0 P₄
  cases x with
  | next => cases r₄; exact hN _ _ _ _ _ P₂₄ F₄ e
  | cont => cases r₄; exact hN _ _ _ _ _ P₂₄ F₄ e
  | brk => cases r₄; cases e; exact hQ _ _ _ _ P₂₄ F₄ rfl
  | ret v => obtain ⟨rv, rfl, r⟩ := r₄; cases e; exact hQ _ _ _ _ P₂₄ F₄ ⟨rv, rfl, r⟩
theorem gb {test : Expr} {body : List Stmt} {pos : Pos} {c : EM Bool} {f : SM} (ht : SimB C k sc test c) (hb : fq C k sc body f) : SimS C k sc (.While test body [] pos) (eZ c f) := fun A env s ρ H loc z loc' H' Q E o rm hsc R F e hQ => by
 obtain ⟨N, e⟩ := oZ e
 refine wpAny_While (codeAny_whileLoop (WhileAt C ρ H env s c f ((z, loc'), H')) (fun n s' w => ?_) N ⟨ρ, s.heap, s.toks, H, loc, rfl, .refl R, F, e⟩)
 obtain ⟨ρ₂, h₂, tk₂, H₂, loc₂, rfl, P₂, F₂, e₂⟩ := w
 cases n with
 | zero => cases e₂
 | succ n =>
  exact oN (N := fun s₃ => ∃ m, m < n + 1 ∧ WhileAt C ρ H env s c f ((z, loc'), H') m s₃) (Q := Q) ht hb o rm hsc P₂.rep F₂ e₂ (fun ρ' h' tk H₃ loc₃ P F e => ⟨n, Nat.lt_succ_self n, ρ', h', tk, H₃, loc₃, rfl, P₂.trans0 P, F, e⟩) (fun ρ' h' tk rx P F r => hQ _ _ _ _ (P₂.trans0 P) F r) fun s h => wpAny_execs_nil h
end
noncomputable abbrev CM := Loc → OM Loc
open Classical in
noncomputable def cu (ok : MH → Prop) (b : TM) (t : EM Bool) (g : CM) : List V → CM
 | [] => fun loc H => if ok H then some (loc, H) else none
 | v :: r => fun loc H => if ok H then (match b v loc with
  | some loc₁ => (match t loc₁ H with
   | some (true, H₁) => (match g loc₁ H₁ with
    | some (loc₂, H₂) => cu ok b t g r loc₂ H₂
    | none => none)
   | some (false, H₁) => cu ok b t g r loc₁ H₁
   | none => none)
  | none => none) else none
open Classical in
theorem ic {ok : MH → Prop} {b : TM} {t : EM Bool} {g : CM} {loc : Loc} {H : MH} : cu ok b t g [] loc H = if ok H then some (loc, H) else none := rfl
open Classical in
theorem d5 {ok : MH → Prop} {b : TM} {t : EM Bool} {g : CM} {v : V} {r : List V} {loc : Loc} {H : MH} : cu ok b t g (v :: r) loc H = if ok H then (match b v loc with
  | some loc₁ => (match t loc₁ H with
   | some (true, H₁) => (match g loc₁ H₁ with
    | some (loc₂, H₂) => cu ok b t g r loc₂ H₂
    | none => none)
   | some (false, H₁) => cu ok b t g r loc₁ H₁
   | none => none)
  | none => none) else none := rfl
theorem lD {ok : MH → Prop} {b : TM} {t : EM Bool} {g : CM} {l : List V} {loc : Loc} {H : MH} {r : Loc × MH} (e : cu ok b t g l loc H = some r) : ok H := by
 cases l with
 | nil => rw [ic] at e; split at e; assumption; cases e
 | cons v l => rw [d5] at e; split at e; assumption; cases e
inductive CTurn (ok : MH → Prop) (b : TM) (t : EM Bool) (g : CM) (v : V) (r : List V) (loc : Loc) (H : MH) (res : Loc × MH) : Prop
 | yes (loc₃ : Loc) (H₅ : MH) (loc₆ : Loc) (H₆ : MH) (hb : b v loc = some loc₃) (ht : t loc₃ H = some (true, H₅)) (hg : g loc₃ H₅ = some (loc₆, H₆)) (e : cu ok b t g r loc₆ H₆ = some res) : CTurn ok b t g v r loc H res
 | no (loc₃ : Loc) (H₅ : MH) (hb : b v loc = some loc₃) (ht : t loc₃ H = some (false, H₅)) (e : cu ok b t g r loc₃ H₅ = some res) : CTurn ok b t g v r loc H res
theorem pU {ok : MH → Prop} {b : TM} {t : EM Bool} {g : CM} {v : V} {r : List V} {loc : Loc} {H : MH} {res : Loc × MH} (e : cu ok b t g (v :: r) loc H = some res) : CTurn ok b t g v r loc H res := by
 have k := lD e
 rw [d5, if_pos k] at e
 cases hb : b v loc with
 | none => rw [hb] at e; exact nul e
 | some loc₃ =>
  rw [hb] at e
  dsimp only at e
  cases ht : t loc₃ H with
  | none => rw [ht] at e; exact nul e
  | some q =>
   obtain ⟨c, H₅⟩ := q
   rw [ht] at e
   cases c with
   | false => exact .no loc₃ H₅ hb ht e
   | true =>
    dsimp only at e
    cases hg : g loc₃ H₅ with
    | none => rw [hg] at e; exact nul e
    | some q =>
     obtain ⟨loc₆, H₆⟩ := q
     rw [hg] at e
     exact .yes loc₃ H₅ loc₆ H₆ hb ht hg e
noncomputable def cS (f : EM V) (acc : Nat) : CM := fun loc => bnd (f loc) fun v H => match H[acc]? with
 | some (.list xs) => if xs.length < lim then some (loc, H.set acc (.list (xs ++ [v]))) else none
 | _ => none
noncomputable def cIn (it : EM Src) (b : TM) (t : EM Bool) (g : Nat → CM) (acc : Nat) : CM := fun loc => bnd (it loc) fun src => cu src.ok b t (g acc) src.items loc
noncomputable def fp (cap : List (Option Nat)) (loc : Loc) : Loc := cap.map fun | some i => (loc[i]?).join | none => none
noncomputable def cQ (it : EM Src) (cap : List (Option Nat)) (b : TM) (t : EM Bool) (g : Nat → CM) : EM V := fun loc => bnd (it loc) fun src H => match cu src.ok b t (g H.length) src.items (fp cap loc) (H ++ [.list []]) with
 | some (_, H') => some (.ref H.length, H')
 | none => none
noncomputable def mJ (ifs : List Expr) (env : Env) : Sem Bool := forIn ifs true fun c r => if r = true then do let ok ← isTrue c env (eval c env); pure (ForInStep.yield ok) else pure (ForInStep.yield r)
noncomputable def compK (target : Expr) (ifs : List Expr) (it : Value) (env : Env) (y n : Sem PySem.Fin) : Option Value → Sem PySem.Fin
 | none => pure (.done .next)
 | some v => do
  letOwnedTupleGo target it v
  assign target env v
  let ok ← mJ ifs env
  if ok then y else n
noncomputable def f9 (ipos : Pos) (target : Expr) (ifs : List Expr) (emit : Sem PySem.Fin → Sem PySem.Fin) (c : Code) (it : Value) (env : Env) : Sem PySem.Fin := do
 standAt ipos
 pyNext it >>= compK target ifs it env (emit (again c)) (again c)
noncomputable def eN (ipos : Pos) (c : Value → Code) (it : Value) : Sem PySem.Fin := do
 if (← ask).params.followText "comprehension-iter-twice" then return ← again (c it)
 rule "comprehension.iter-twice"
 standAt ipos
 again (c (← pyIter it))
noncomputable def je (elt : Expr) (acc : Value) (env : Env) (k : Sem PySem.Fin) : Sem PySem.Fin := do
 (do let _ ← call (.builtin "list.append") [acc, ← eval elt env])
 k
noncomputable def pQ (e : Expr) (iter : Expr) (acc : Value) (env : Env) (k : Sem PySem.Fin) : Sem PySem.Fin := do
 let x ← eval iter env
 standAt iter.pos
 let x ← foldedSetIterable iter env x
 let it ← holding [x] (pyIter x)
 let _ ← runOwn (.compStart e 1 it acc env) env
 k
theorem ck (elt iter target : Expr) (ifs : List Expr) (scope : Scope) (pos : Pos) (it acc : Value) (env : Env) :
  compTurn (.ListComp elt [⟨target, iter, ifs, 0⟩] scope pos) 0 it acc env = f9 iter.pos target ifs (je elt acc env) (.compLoop (.ListComp elt [⟨target, iter, ifs, 0⟩] scope pos) 0 it acc env) it env := rfl
theorem lK (elt iter target iter' target' : Expr) (ifs ifs' : List Expr) (scope : Scope) (pos : Pos) (it acc : Value) (env : Env) :
  compTurn (.ListComp elt [⟨target, iter, ifs, 0⟩, ⟨target', iter', ifs', 0⟩] scope pos) 0 it acc env = f9 iter.pos target ifs (pQ (.ListComp elt [⟨target, iter, ifs, 0⟩, ⟨target', iter', ifs', 0⟩] scope pos) iter' acc env) (.compLoop (.ListComp elt [⟨target, iter, ifs, 0⟩, ⟨target', iter', ifs', 0⟩] scope pos) 0 it acc env) it env := rfl
theorem lJ (elt iter target iter' target' : Expr) (ifs ifs' : List Expr) (scope : Scope) (pos : Pos) (it acc : Value) (env : Env) :
  compTurn (.ListComp elt [⟨target, iter, ifs, 0⟩, ⟨target', iter', ifs', 0⟩] scope pos) 1 it acc env = f9 iter'.pos target' ifs' (je elt acc env) (.compLoop (.ListComp elt [⟨target, iter, ifs, 0⟩, ⟨target', iter', ifs', 0⟩] scope pos) 1 it acc env) it env := rfl
theorem bW (elt iter target : Expr) (ifs : List Expr) (scope : Scope) (pos : Pos) (it acc : Value) (env : Env) :
  compStart (.ListComp elt [⟨target, iter, ifs, 0⟩] scope pos) 0 it acc env = eN iter.pos (fun it => .compLoop (.ListComp elt [⟨target, iter, ifs, 0⟩] scope pos) 0 it acc env) it := rfl
theorem j5 (elt iter target iter' target' : Expr) (ifs ifs' : List Expr) (scope : Scope) (pos : Pos) (it acc : Value) (env : Env) :
  compStart (.ListComp elt [⟨target, iter, ifs, 0⟩, ⟨target', iter', ifs', 0⟩] scope pos) 0 it acc env = eN iter.pos (fun it => .compLoop (.ListComp elt [⟨target, iter, ifs, 0⟩, ⟨target', iter', ifs', 0⟩] scope pos) 0 it acc env) it := rfl
theorem j4 (elt iter target iter' target' : Expr) (ifs ifs' : List Expr) (scope : Scope) (pos : Pos) (it acc : Value) (env : Env) :
  compStart (.ListComp elt [⟨target, iter, ifs, 0⟩, ⟨target', iter', ifs', 0⟩] scope pos) 1 it acc env = eN iter'.pos (fun it => .compLoop (.ListComp elt [⟨target, iter, ifs, 0⟩, ⟨target', iter', ifs', 0⟩] scope pos) 1 it acc env) it := rfl
section
variable {C : Cx} {k : Nat} {sc : Scope}
noncomputable abbrev eE (C : Cx) (k : Nat) (sc : Scope) (ifs : List Expr) (t : EM Bool) : Prop := Sim C k sc (fun env => mJ ifs env) (fun ξ ξ b c => c = b) t
theorem b6 : eE C k sc [] (eC true) := fun A env s ρ H loc v H' Q E o rm hs R F e hQ => by
 cases e
 exact wpAny_tests_nil (hQ ρ s.heap s.toks true (.refl R) rfl)
theorem fI {c : Expr} {t : EM Bool} (h : SimB C k sc c t) : eE C k sc [c] t := fun A env s ρ H loc v H' Q E o rm hs R F e hQ =>
 wpAny_tests_one (h o rm hs R F e hQ)
@[reducible] noncomputable def KE' (C : Cx) (ρ : List Addr) (H H' : MH) (env : Env) (s : Shared) (loc' : Loc) (A : Around) (kk : Sem PySem.Fin) (Q : PySem.Fin → Shared → Prop) (E : Value → Shared → Prop) : Prop := ∀ ρ' h' tk, Post C ρ H H' (dM env) s.heap h' ρ' → Fr0 C ρ' h' env loc' → wpAny C.M A kk Q E (sw s h' tk)
noncomputable def fF (C : Cx) (k : Nat) (sc : Scope) (emit : Value → Env → Sem PySem.Fin → Sem PySem.Fin) (g : Nat → CM) : Prop :=
 ∀ ⦃A : Around⦄ ⦃env : Env⦄ ⦃s : Shared⦄ ⦃ρ : List Addr⦄ ⦃H : MH⦄ ⦃loc : Loc⦄ ⦃l : Nat⦄ ⦃a : Addr⦄ ⦃loc' : Loc⦄ ⦃H' : MH⦄ ⦃kk : Sem PySem.Fin⦄ ⦃Q : PySem.Fin → Shared → Prop⦄ ⦃E : Value → Shared → Prop⦄, C.Ok → Room A k → env.scope = sc → Rep C ρ H s.heap → Fr0 C ρ s.heap env loc → ρ[l]? = some a →
  g l loc H = some (loc', H') → KE' C ρ H H' env s loc' A kk Q E → wpAny C.M A (emit (.ref a) env kk) Q E s
theorem wpE {α : Type} {M : Model} {A : Around} {t : Sem α} {Q : α → Shared → Prop} {E : Value → Shared → Prop} {s : Shared} (h : wpAny M A t Q (fun ξ ξ => False) s) : wpAny M A t Q E s := wpAny_mono h (fun ξ ξ q => q) fun ξ ξ f => f.elim
inductive CompAt (C : Cx) (ρ₁ : List Addr) (H₁ : MH) (ex : Addr → Prop) (h₁ : Heap) (env : Env) (src : Src) (I J : Addr) (b : TM) (t : EM Bool) (g : CM) (res : Loc × MH) (s : Shared) (n : Nat) (s' : Shared) : Prop where
 | mk (ρ' : List Addr) (h' : Heap) (tk : Nat) (H₂ : MH) (loc₂ : Loc) (i : Nat) (e0 : s' = (sw s h' tk)) (e1 : Post C ρ₁ H₁ H₂ ex h₁ h' ρ') (e2 : Fr0 C ρ' h' env loc₂) (e3 : ItAt ρ' h' src i I J) (e4 : OwnIt C ρ' I J) (e5 : i ≤ src.items.length) (e6 : n = src.items.length - i)
  (e7 : cu src.ok b t g (src.items.drop i) loc₂ H₂ = some res) : CompAt C ρ₁ H₁ ex h₁ env src I J b t g res s n s'
theorem rH {target : Expr} {ifs : List Expr} {emit : Value → Env → Sem PySem.Fin → Sem PySem.Fin} {b : TM} {t : EM Bool} {g : Nat → CM} (ht : eF C dM sc target b) (hte : eE C k sc ifs t) (he : fF C k sc emit g)
  {A : Around} {E : Value → Shared → Prop} {env : Env} {s : Shared} {ρ : List Addr} {H : MH} {loc : Loc} {l i : Nat} {a : Addr} {src : Src} {I J : Addr} {v : V} {r : List V} {res : Loc × MH} {Q : PySem.Fin → Shared → Prop} {kk : Sem PySem.Fin}
  (o : C.Ok) (rm : Room A k) (hsc : env.scope = sc) (R : Rep C ρ H s.heap) (ha : ρ[l]? = some a) (x : ItAt ρ s.heap src i I J) (O : OwnIt C ρ I J) (ok : src.ok H) (hv : src.items[i]? = some v) (hto : fw src target = true)
  (nI : ¬ dM env I ∧ ¬ dM env J) (nX : ∀ {h'}, Post C ρ H H (two I J) s.heap h' ρ → Fr0 C ρ h' env loc) (e : CTurn src.ok b t (g l) v r loc H res)
  (hQ : ∀ ρ₅ h₅ tk₅ loc₅ H₅, Post C ρ H H₅ (fun b => dM env b ∨ two I J b) s.heap h₅ ρ₅ → ItAt ρ₅ h₅ src (i + 1) I J → OwnIt C ρ₅ I J → Fr0 C ρ₅ h₅ env loc₅ → cu src.ok b t (g l) r loc₅ H₅ = some res → wpAny C.M A kk Q E (sw s h₅ tk₅)) :
  wpAny C.M A (pyNext (.ref I) >>= compK target ifs (.ref I) env (emit (.ref a) env kk) kk) Q E s := by
 refine wpAny_bind (wpAny_mono (qn (Q := fun rv s₂ => wpAny C.M A (assign target env rv >>= fun ξ => mJ ifs env >>= fun ok => if ok = true then emit (.ref a) env kk else kk) Q E s₂) o R x O ok hv hto fun h₃ tk₃ rv P₃ x₃ r₃ => ?_) (fun r' s₁ h => ?_) fun ξ ξ q => q)
 ·show wpAny C.M A _ Q E _
  have go : ∀ {h₄ ρ₅ h₅ tk₅ loc₅ H₅}, Post C ρ H H (dM env) h₃ h₄ ρ → Post C ρ H H₅ (dM env) h₄ h₅ ρ₅ → Fr0 C ρ₅ h₅ env loc₅ → cu src.ok b t (g l) r loc₅ H₅ = some res → wpAny C.M A kk Q E (sw s h₅ tk₅) := fun P₄ P₅ F₅ e₅ => by
   have x₄ := x₃.post O P₄ nI.1 nI.2 ok ok
   exact hQ _ _ _ _ _ ((((Post.refl R).trans P₃ fun b q => .inl (.inr q)).trans P₄ fun b q => .inl (.inl q)).trans P₅ fun b q => .inl (.inl q)) (x₄.post O P₅ nI.1 nI.2 ok (lD e₅)) (O.post P₅ x₄.lt.1 x₄.lt.2) F₅ e₅
  cases e with
  | yes loc₃ H₅ loc₆ H₆ hb₃ et eg e₂ =>
   refine wpAny_bind (ht o rm.hd hsc P₃.rep (nX P₃) r₃ hb₃ fun h₄ tk₄ P₄ F₄ => wpAny_bind (hte o rm hsc P₄.rep F₄ et fun ρ₅ h₅ tk₅ rb P₅ r₅ => ?_))
   subst r₅
   rw [if_pos rfl]
   have ha₅ : ρ₅[l]? = some a := by
    obtain ⟨u', rfl, ξ⟩ := P₅.ext
    exact dk ha
   exact he o rm hsc P₅.rep (F₄.post P₅) ha₅ eg fun ρ₆ h₆ tk₆ P₆ F₆ => go P₄ (P₅.own.trans0 P₆) F₆ e₂
  | no loc₃ H₅ hb₃ et e₂ =>
   refine wpAny_bind (ht o rm.hd hsc P₃.rep (nX P₃) r₃ hb₃ fun h₄ tk₄ P₄ F₄ => wpAny_bind (hte o rm hsc P₄.rep F₄ et fun ρ₅ h₅ tk₅ rb P₅ r₅ => ?_))
   subst r₅
   exact go P₄ P₅.own (F₄.post P₅) e₂
 ·obtain ⟨rv, rfl, h⟩ := h
  exact wpAny_bind (wpAny_mono h (fun ξ ξ q => q) fun ξ ξ q => q)
theorem mE {elt : Expr} {gens : List Comprehension} {scope : Scope} {pos : Pos} {depth : Nat} {ipos : Pos} {target : Expr} {ifs : List Expr} {emit : Value → Env → Sem PySem.Fin → Sem PySem.Fin} {b : TM} {t : EM Bool} {g : Nat → CM}
  (hturn : ∀ it acc env, compTurn (.ListComp elt gens scope pos) depth it acc env = f9 ipos target ifs (emit acc env) (.compLoop (.ListComp elt gens scope pos) depth it acc env) it env)
  (ht : eF C dM sc target b) (hte : eE C k sc ifs t) (he : fF C k sc emit g)
  {A : Around} {env : Env} {s : Shared} {ρ : List Addr} {H : MH} {loc : Loc} {l : Nat} {a : Addr} {src : Src} {I J : Addr} {loc' : Loc} {H' : MH} {R : Result → Shared → Prop}
  (o : C.Ok) (rm : Room A k) (hsc : env.scope = sc) (Rp : Rep C ρ H s.heap) (F : Fr0 C ρ s.heap env loc) (ha : ρ[l]? = some a) (x : ItAt ρ s.heap src 0 I J) (O : OwnIt C ρ I J) (nL : env.locals ≠ I ∧ env.locals ≠ J) (nC : ∀ x c, env.cells.lookup x = some c → c ≠ I ∧ c ≠ J)
  (hto : fw src target = true) (ec : cu src.ok b t (g l) src.items loc H = some (loc', H'))
  (hR : ∀ ρ' h' tk, Post C ρ H H' (fun b => dM env b ∨ two I J b) s.heap h' ρ' → Fr0 C ρ' h' env loc' → R (.ok .next) (sw s h' tk)) : codeAny C.M A (.compLoop (.ListComp elt gens scope pos) depth (.ref I) (.ref a) env) R s := by
 have nX : ∀ {ρ ρ' H H' h h' l}, Fr0 C ρ h env l → Post C ρ H H' (two I J) h h' ρ' → Fr0 C ρ' h' env l := fun F P => F.postX P (by
  rintro (q | q)
  ·exact nL.1 q
  ·exact nL.2 q) (by
  rintro x c hc (q | q)
  ·exact (nC x c hc).1 q
  ·exact (nC x c hc).2 q)
 have nI : ¬ dM env I ∧ ¬ dM env J := ⟨fun q => nL.1 q.symm, fun q => nL.2 q.symm⟩
 refine codeAny_loop' rfl (CompAt C ρ H (fun b => dM env b ∨ two I J b) s.heap env src I J b t (g l) (loc', H') s) ?_ src.items.length ⟨ρ, s.heap, s.toks, H, loc, 0, rfl, .refl Rp, F, x, O, Nat.zero_le _, rfl, ec⟩
 rintro n s' ⟨ρ₂, h₂, tk₂, H₂, loc₂, i, rfl, P₂, F₂, x₂, O₂, hle, rfl, e₂⟩
 show wpAny C.M A ((compTurn (.ListComp elt gens scope pos) depth (.ref I) (.ref a) env).onRaise (fun x => do noteFrame x env; theTreesLotGoes x)) _ _ _
 refine wpAny_noted ?_
 rw [hturn]
 unfold f9
 refine wpAny_bind (wpAny_standAt ?_)
 have ok₂ := lD e₂
 cases hd : src.items.drop i with
 | nil =>
  have hi : i = src.items.length := Nat.le_antisymm hle (List.drop_eq_nil_iff.mp hd)
  rw [hd] at e₂
  rw [ic, if_pos ok₂] at e₂
  cases e₂
  refine wpAny_bind (it_end o rm.hd P₂.rep x₂ O₂ ok₂ hi fun h₃ tk₃ P₃ => ?_)
  exact wpAny_pure (hR _ _ _ (P₂.trans P₃ fun b q => .inl (.inr q)) (nX F₂ P₃))
 | cons v r =>
  obtain ⟨hv, hr⟩ := Src.ok_drop hd
  have hlt : i < src.items.length := (List.getElem?_eq_some_iff.mp hv).1
  rw [hd] at e₂
  have ha₂ : ρ₂[l]? = some a := by
   obtain ⟨u, rfl, ξ⟩ := P₂.ext
   exact dk ha
  refine rH ht hte he o rm hsc P₂.rep ha₂ x₂ O₂ ok₂ hv hto nI (nX F₂) (pU e₂) fun ρ₅ h₅ tk₅ loc₅ H₅ P₅ x₅ O₅ F₅ e₅ => wpAny_pure ?_
  exact Or.inl ⟨rfl, src.items.length - (i + 1), Nat.sub_succ_lt_self _ _ hlt, ρ₅, h₅, tk₅, H₅, loc₅, i + 1, rfl, P₂.trans P₅ fun b q => .inl q, F₅, x₅, O₅, hlt, rfl, by rw [hr]; exact e₅⟩
end
section
variable {C : Cx} {k : Nat} {sc : Scope} {ρ : List Addr} {H : MH} {h : Heap}
theorem it_self {A : Around} {E : Value → Shared → Prop} {s : Shared} {src : Src} {i : Nat} {I J : Addr} {Q : Value → Shared → Prop} (x : ItAt ρ s.heap src i I J) (hq : Q (.ref I) s) : wpAny C.M A (pyIter (.ref I)) Q E s := by
 cases src with
 | list j xs => obtain ⟨rfl, l, ξ, hit⟩ := x; exact wpAny_pyIter_listiter hit hq
 | dict j es n => obtain ⟨rfl, l, ep, ξ, hit, ξ⟩ := x; exact wpAny_pyIter_keyiter hit hq
 | vals j es n => obtain ⟨rfl, l, ep, ξ, hit, ξ⟩ := x; exact wpAny_pyIter_valiter hit hq
 | range lo n => obtain ⟨rfl, hit⟩ := x; exact wpAny_pyIter_rangeiter hit hq
 | enum j xs => obtain ⟨ξ, l, old, ξ, he, ξ⟩ := x; exact wpAny_pyIter_enum he hq
theorem lA {elt : Expr} {gens : List Comprehension} {scope : Scope} {pos : Pos} {depth : Nat} {ipos : Pos}
  (hstart : ∀ it acc env, compStart (.ListComp elt gens scope pos) depth it acc env = eN ipos (fun it => .compLoop (.ListComp elt gens scope pos) depth it acc env) it)
  {A : Around} {env : Env} {s : Shared} {src : Src} {i : Nat} {I J : Addr} {acc : Value} {R : Result → Shared → Prop} (x : ItAt ρ s.heap src i I J)
  (h0 : codeAny C.M A (.compLoop (.ListComp elt gens scope pos) depth (.ref I) acc env) R s) : codeAny C.M A (.compStart (.ListComp elt gens scope pos) depth (.ref I) acc env) R s := by
 refine codeAny_of_tree ?_
 show wpAny _ _ ((compStart (.ListComp elt gens scope pos) depth (.ref I) acc env).onRaise (fun x => do noteFrame x env; standAt theWindowsPlace)) _ _ s
 refine wpAny_notedAt ?_
 rw [hstart]
 unfold eN
 refine wpAny_bind (wpAny_askSetting (wpAny_ite ?_))
 split
 ·first
   | exact wpAny_bind (wpAny_pure (wpAny_pure (And.intro rfl h0)))
   | exact wpAny_pure (And.intro rfl h0)
 ·exact wpAny_bind (wpAny_rule (wpAny_bind (wpAny_standAt (wpAny_bind (it_self x (wpAny_pure (And.intro rfl h0)))))))
theorem bF {elt : Expr} {f : EM V} (hf : SimE C k sc elt f) : fF C k sc (je elt) (cS f) := fun A env s ρ H loc l a loc' H' kk Q E o rm hsc R F ha e hQ => by
 obtain ⟨v, H₁, ev, e⟩ := an e
 split at e
 ·rename_i xs hl
  split at e
  ·rename_i hz
   cases e
   unfold je
   refine wpAny_bind (wpAny_bind (hf o rm hsc R F ev fun ρ₁ h₁ tk₁ rv P₁ r₁ => wpAny_bind ?_))
   have ha₁ : ρ₁[l]? = some a := by obtain ⟨t, rfl, ξ⟩ := P₁.ext; exact dk ha
   refine jq (l := [.ref l, v]) (v := .none) (H' := H₁.set l (.list (xs ++ [v]))) o rm P₁.rep (.cons (.ref ha₁) (.cons r₁ .nil)) ?_ fun ρ₂ h₂ tk₂ rn P₂ r₂ => ?_
   ·unfold eS dq
    simp only [hl, if_pos hz]
   ·exact wpAny_pure (hQ ρ₂ h₂ tk₂ (P₁.transN P₂).own (((F.post P₁).post P₂)))
  ·exact nul e
 ·exact nul e
theorem ja {env : Env} {loc : Loc} (F : Fr0 C ρ h env loc) {I : Addr} (hI : h.objs.size ≤ I) : env.locals ≠ I ∧ ∀ x c, env.cells.lookup x = some c → c ≠ I :=
 ⟨Nat.ne_of_lt (Nat.lt_of_lt_of_le F.loc_lt hI), fun x c hc => Nat.ne_of_lt (Nat.lt_of_lt_of_le (F.cell_lt hc) hI)⟩
theorem qs {elt : Expr} {gens : List Comprehension} {scope : Scope} {pos : Pos} {iter target : Expr} {ifs : List Expr} {emit : Value → Env → Sem PySem.Fin → Sem PySem.Fin} {it : EM Src} {b : TM} {t : EM Bool} {g : Nat → CM} {ipos : Pos}
  (hstart : ∀ it acc env, compStart (.ListComp elt gens scope pos) 1 it acc env = eN ipos (fun it => .compLoop (.ListComp elt gens scope pos) 1 it acc env) it)
  (hturn : ∀ it acc env, compTurn (.ListComp elt gens scope pos) 1 it acc env = f9 ipos target ifs (emit acc env) (.compLoop (.ListComp elt gens scope pos) 1 it acc env) it env)
  (hi : io C k sc iter it) (ht : eF C dM sc target b) (hte : eE C k sc ifs t) (he : fF C k sc emit g) (hto : ∀ loc H src H', it loc H = some (src, H') → fw src target = true) (hs : ∀ env x, foldedSetIterable iter env x = pure x) :
  fF C k sc (pQ (.ListComp elt gens scope pos) iter) (cIn it b t g) := fun A env s ρ H loc l a loc' H' kk Q E o rm hsc R F ha e hQ => by
 obtain ⟨src, H₁, e₁, e⟩ := an e
 unfold pQ
 refine wpAny_bind (wpAny_mono (hi o rm hsc R F e₁ (Q := fun itv s₁ => wpAny C.M A (runOwn (.compStart (.ListComp elt gens scope pos) 1 itv (.ref a) env) env >>= fun ξ => kk) Q E s₁) (E := E) fun ρ₁ h₁ tk₁ I J P₁ x₁ O₁ hI hJ ok₁ => ?_) (fun x s₁ hx => ?_) fun ξ ξ q => q)
 ·have ha₁ : ρ₁[l]? = some a := by obtain ⟨t, rfl, ξ⟩ := P₁.ext; exact dk ha
  have nI := ja F hI
  have nJ := ja F hJ
  refine wpAny_bind (wpAny_runOwn (lA hstart x₁ (mE (loc := loc) hturn ht hte he o rm hsc P₁.rep (F.post P₁) ha₁ x₁ O₁ ⟨nI.1, nJ.1⟩ (fun x c hc => ⟨nI.2 x c hc, nJ.2 x c hc⟩) (hto _ _ _ _ e₁) e fun ρ₂ h₂ tk₂ P₂ F₂ => ?_)))
  refine hQ ρ₂ h₂ tk₂ (P₁.own.trans P₂ fun b q => ?_) F₂
  rcases q with q | rfl | rfl
  ·exact .inl q
  ·exact .inr hI
  ·exact .inr hJ
 ·exact wpAny_bind (wpAny_standAt (wpAny_bind (wpAny_of_eq (hs env x) (wpAny_bind (wpAny_holding (wpAny_mono hx (fun ξ ξ q => q) fun ξ ξ q => q))))))
noncomputable def bJ (sc csc : Scope) : Scope := { csc with names := csc.names.map fun (n, k) => if (k == .free && sc.kind == .function && sc.names.lookup n == some .cell) then (n, .cell) else (n, k) }
theorem kh {env : Env} {csc : Scope} (h : env.scope = sc) : relabel csc env = bJ sc csc := by subst h; rfl
noncomputable def m8 (sc : Scope) : (Str × NameKind) × Option Nat → Bool
 | ((_, .local), none) => true
 | ((n, .free), some i) => (sc.names[i]?).any fun x => x.1 == n && (x.2 == .cell || x.2 == .free)
 | ((_, .cell), _) => false
 | ((_, .free), none) => false
 | ((_, _), none) => true
 | _ => false
theorem gV {sc : Scope} {n : Str} {i : Nat} (h : m8 sc ((n, .free), some i) = true) : ∃ kd, sc.names[i]? = some (n, kd) ∧ (kd = .cell ∨ kd = .free) := by
 have h' : (sc.names[i]?).any (fun x => x.1 == n && (x.2 == .cell || x.2 == .free)) = true := h
 cases hi : sc.names[i]? with
 | none => rw [hi] at h'; cases h'
 | some x =>
  rw [hi] at h'
  obtain ⟨m, kd⟩ := x
  obtain ⟨a, b⟩ := Bool.and_eq_true_iff.mp h'
  cases beq_iff_eq.mp a
  exact ⟨kd, rfl, (Bool.or_eq_true_iff.mp b).imp beq_iff_eq.mp beq_iff_eq.mp⟩
noncomputable def qt (sc csc : Scope) (cap : List (Option Nat)) : Bool :=
 cap.length == csc.names.length && (csc.names.zip cap).all (m8 sc) && decide (csc.names.map (·.1)).Nodup && csc.kind == .function
structure CapOk (sc csc : Scope) (cap : List (Option Nat)) : Prop where
 len : cap.length = csc.names.length
 one : ∀ (p : Nat) (x : Str) (kd : NameKind) (c : Option Nat), csc.names[p]? = some (x, kd) → cap[p]? = some c → m8 sc ((x, kd), c) = true
 nodup : (csc.names.map (·.1)).Nodup
 kind : csc.kind = .function
theorem CapOk.of {sc csc : Scope} {cap : List (Option Nat)} (h : qt sc csc cap = true) : CapOk sc csc cap := by
 unfold qt at h
 simp only [Bool.and_eq_true, beq_iff_eq, decide_eq_true_eq] at h
 obtain ⟨⟨⟨h1, h2⟩, h3⟩, h4⟩ := h
 refine ⟨h1, fun p x kd c hp hc => ?_, h3, h4⟩
 rw [List.all_eq_true] at h2
 refine h2 ((x, kd), c) ?_
 refine List.mem_of_getElem? (i := p) ?_
 rw [List.getElem?_zip_eq_some]
 exact ⟨hp, hc⟩
theorem CapOk.at {sc csc : Scope} {cap : List (Option Nat)} (h : CapOk sc csc cap) {p : Nat} {x : Str} {kd : NameKind} (hp : csc.names[p]? = some (x, kd)) : ∃ c, cap[p]? = some c ∧ m8 sc ((x, kd), c) = true := by
 have hl : p < cap.length := by rw [h.len]; exact (List.getElem?_eq_some_iff.mp hp).1
 exact ⟨cap[p], List.getElem?_eq_getElem hl, h.one p x kd _ hp (List.getElem?_eq_getElem hl)⟩
noncomputable def eJ (cells : List (Str × Addr)) : List (Str × NameKind) → List (Str × Addr) → List (Str × Addr)
 | [], acc => acc
 | (n, kd) :: r, acc => if kd == .free then eJ cells r ((n, (cells.lookup n).getD 0) :: acc) else eJ cells r acc
theorem fm {cells : List (Str × Addr)} {n : Str} {kd : NameKind} {r : List (Str × NameKind)} {acc : List (Str × Addr)} : eJ cells ((n, kd) :: r) acc = if kd == .free then eJ cells r ((n, (cells.lookup n).getD 0) :: acc) else eJ cells r acc := rfl
theorem lI {env : Env} {csc : Scope} (h : ∀ x, (x, NameKind.free) ∈ csc.names → ∃ c, env.cells.lookup x = some c) : closureFor csc env = pure (eJ env.cells csc.names []) := by
 have key : ∀ (names : List (Str × NameKind)) (acc : List (Str × Addr)) (f : Str × NameKind → List (Str × Addr) → Sem (ForInStep (List (Str × Addr)))),
   (∀ n kd c, f (n, kd) c = if kd == NameKind.free then (do let a ← cellOf env n; pure (.yield ((n, a) :: c))) else pure (.yield c)) → (∀ x, (x, NameKind.free) ∈ names → ∃ c, env.cells.lookup x = some c) →
   forIn names acc f = (pure (eJ env.cells names acc) : Sem (List (Str × Addr))) := by
  intro names
  induction names with
  | nil => intro acc f hf h; rfl
  | cons x r ih =>
   intro acc f hf h
   obtain ⟨n, kd⟩ := x
   rw [List.forIn_cons, hf]
   rw [fm]
   by_cases hk : kd = .free
   ·subst hk
    obtain ⟨c, hc⟩ := h n (.head _)
    have e1 : cellOf env n = pure c := by unfold cellOf; rw [hc]
    simp only [beq_self_eq_true, if_true, e1, hc, Option.getD_some]
    exact ih _ f hf fun x hx => h x (.tail _ hx)
   ·have hb : (kd == NameKind.free) = false := by simpa using hk
    simp only [hb, Bool.false_eq_true, if_false]
    exact ih _ f hf fun x hx => h x (.tail _ hx)
 unfold closureFor
 dsimp only
 rw [key csc.names [] _ (fun n kd c => by cases hkc : kd == NameKind.free <;> simp [hkc]) h]
 rfl
theorem ib (cells : List (Str × Addr)) : ∀ (names : List (Str × NameKind)) (acc : List (Str × Addr)) (n : Str) (c : Addr), (eJ cells names acc).lookup n = some c → (acc.lookup n = some c) ∨ ((n, NameKind.free) ∈ names ∧ c = (cells.lookup n).getD 0)
 | [], acc, n, c, h => .inl h
 | (m, kd) :: r, acc, n, c, h => by
  rw [fm] at h
  split at h
  ·rename_i hk
   have hk' : kd = .free := by simpa using hk
   subst hk'
   rcases ib cells r _ n c h with q | ⟨q, q'⟩
   ·rw [List.lookup_cons] at q
    cases hb : n == m with
    | true =>
     rw [hb] at q
     have := beq_iff_eq.mp hb
     subst this
     right
     exact ⟨.head _, (Option.some.inj q).symm⟩
    | false => rw [hb] at q; exact .inl q
   ·exact .inr ⟨.tail _ q, q'⟩
  ·rcases ib cells r _ n c h with q | ⟨q, q'⟩
   ·exact .inl q
   ·exact .inr ⟨.tail _ q, q'⟩
theorem jF (cells : List (Str × Addr)) : ∀ (names : List (Str × NameKind)) (acc : List (Str × Addr)) (n : Str), ((n, NameKind.free) ∈ names ∨ (acc.lookup n).isSome = true) → ((eJ cells names acc).lookup n).isSome = true
 | [], acc, n, h => by rcases h with h | h; (cases h); exact h
 | (m, kd) :: r, acc, n, h => by
  rw [fm]
  split
  ·rename_i hk
   refine jF cells r _ n ?_
   by_cases e : n = m
   ·right; rw [e, List.lookup_cons, beq_self_eq_true]; rfl
   ·rcases h with h | h
    ·rcases List.mem_cons.mp h with q | q
     ·cases q; exact absurd rfl e
     ·exact .inl q
    ·right
     rw [List.lookup_cons, beq_eq_false_iff_ne.mpr e]; exact h
  ·rename_i hk
   refine jF cells r _ n ?_
   rcases h with h | h
   ·rcases List.mem_cons.mp h with q | q
    ·cases q; exact absurd rfl hk
    ·exact .inl q
   ·exact .inr h
theorem mG (cells : List (Str × Addr)) : ∀ (names : List (Str × NameKind)) (acc : List (Str × Addr)) (x : Str × Addr), x ∈ eJ cells names acc → x ∈ acc ∨ ((x.1, NameKind.free) ∈ names ∧ x.2 = (cells.lookup x.1).getD 0)
 | [], acc, x, h => .inl h
 | (m, kd) :: r, acc, x, h => by
  rw [fm] at h
  split at h
  ·rename_i hk
   have hk' : kd = .free := by simpa using hk
   subst hk'
   rcases mG cells r _ x h with q | ⟨q, q'⟩
   ·rcases List.mem_cons.mp q with rfl | q
    ·exact .inr ⟨.head _, rfl⟩
    ·exact .inl q
   ·exact .inr ⟨.tail _ q, q'⟩
  ·rcases mG cells r _ x h with q | ⟨q, q'⟩
   ·exact .inl q
   ·exact .inr ⟨.tail _ q, q'⟩
theorem gT {cells : List (Str × Addr)} (ap : cells.Pairwise fun x y => x.2 ≠ y.2) : ∀ (names : List (Str × NameKind)) (acc : List (Str × Addr)), (names.map (·.1)).Nodup → (∀ x ∈ acc, x.1 ∉ names.map (·.1)) → (∀ x, (x, NameKind.free) ∈ names → ∃ c, cells.lookup x = some c) →
  (∀ x ∈ acc, cells.lookup x.1 = some x.2) → acc.Pairwise (fun x y => x.2 ≠ y.2) → (eJ cells names acc).Pairwise fun x y => x.2 ≠ y.2
 | [], acc, _, _, _, _, h => h
 | (m, kd) :: r, acc, hn, hd, hf, hc, h => by
  simp only [List.map_cons, List.nodup_cons] at hn
  rw [fm]
  split
  ·rename_i hk
   have hk' : kd = .free := by simpa using hk
   subst hk'
   obtain ⟨c, hm⟩ := hf m (.head _)
   rw [hm, Option.getD_some]
   refine gT ap r _ hn.2 (fun x hx => ?_) (fun x hx => hf x (.tail _ hx)) (fun x hx => ?_) (List.pairwise_cons.mpr ⟨fun y hy q => ?_, h⟩)
   ·rcases List.mem_cons.mp hx with rfl | hx
    ·exact hn.1
    ·exact fun q => hd x hx (by simp only [List.map_cons]; exact .tail _ q)
   ·rcases List.mem_cons.mp hx with rfl | hx
    ·exact hm
    ·exact hc x hx
   ·have q' : c = y.2 := q
    have := name_of_addr ap (mem_of_lookup hm) (q' ▸ mem_of_lookup (hc y hy))
    exact hd y hy (by rw [← this]; simp)
  ·exact gT ap r _ hn.2 (fun x hx q => hd x hx (by simp only [List.map_cons]; exact .tail _ q)) (fun x hx => hf x (.tail _ hx)) hc h
end
theorem bu {α : Type} {l t : List α} {j : Nat} {a : α} (e : l[j]? = some a) : (l ++ t)[j]? = some a := by
 rw [List.getElem?_append_left (List.getElem?_eq_some_iff.mp e).1]; exact e
section
variable {C : Cx} {k : Nat} {sc : Scope} {ρ ρ' : List Addr} {H H' : MH} {h h' : Heap}
theorem lB {cap : List (Option Nat)} {loc : Loc} {p : Nat} {v : V} (e : (fp cap loc)[p]? = some (some v)) : ∃ i, cap[p]? = some (some i) ∧ loc[i]? = some (some v) := by
 unfold fp at e
 rw [List.getElem?_map, Option.map_eq_some_iff] at e
 obtain ⟨c, hc, e⟩ := e
 cases c with
 | none => exact nul e
 | some i =>
  refine ⟨i, hc, ?_⟩
  dsimp only at e
  cases hl : loc[i]? with
  | none => rw [hl] at e; cases e
  | some x => rw [hl] at e; exact congrArg some e
theorem pS {env cenv : Env} {csc : Scope} {cap : List (Option Nat)} {loc : Loc} {L : Addr} (ok : CapOk sc csc cap) (hsc : env.scope = sc) (hk : sc.kind = .function) (F : Fr0 C ρ h env loc)
  (c1 : cenv.scope = bJ sc csc) (c2 : cenv.locals = L) (c3 : cenv.globals = env.globals) (c4 : cenv.builtins = env.builtins) (c5 : cenv.cells = eJ env.cells csc.names [])
  (hns : h'.Ns L (fun ξ => none)) (kp : ∀ b o, h.get? b = some o → h'.get? b = some o) (hL : L ∉ ρ ∧ C.base.objs.size ≤ L) (hLh : h.objs.size ≤ L) : Fr0 C ρ h' cenv (fp cap loc) := by
 subst hsc
 have hfree : ∀ x, (x, NameKind.free) ∈ csc.names → ∃ c, env.cells.lookup x = some c := fun x hx => by
  obtain ⟨p, hp⟩ := List.mem_iff_getElem?.mp hx
  obtain ⟨c, hc, h1⟩ := ok.at hp
  cases c with
  | none => cases h1
  | some i =>
   obtain ⟨kd, hi, h2⟩ := gV h1
   obtain ⟨c, v₀, hc, ξ⟩ := F.cell i _ kd hi h2
   exact ⟨c, hc⟩
 have hcl : ∀ n c, (eJ env.cells csc.names []).lookup n = some c → env.cells.lookup n = some c ∧ (n, NameKind.free) ∈ csc.names := fun n c e => by
  rcases ib env.cells csc.names [] n c e with q | ⟨q, q'⟩
  ·cases q
  ·obtain ⟨c', hc'⟩ := hfree n q
   rw [hc', Option.getD_some] at q'
   exact ⟨q' ▸ hc', q⟩
 have names : ∀ (p : Nat) (x : Str) (kd : NameKind), cenv.scope.names[p]? = some (x, kd) → ∃ kd₀, csc.names[p]? = some (x, kd₀) ∧ (kd = kd₀ ∨ kd₀ = .free) := fun p x kd e => by
  rw [c1] at e
  unfold bJ at e
  dsimp only at e
  rw [List.getElem?_map, Option.map_eq_some_iff] at e
  obtain ⟨⟨n, k₀⟩, hp, e⟩ := e
  dsimp only at e
  split at e
  ·rename_i hq
   simp only [Bool.and_eq_true, beq_iff_eq] at hq
   cases e
   exact ⟨_, hp, .inr hq.1.1⟩
  ·cases e; exact ⟨_, hp, .inl rfl⟩
 have st : Step (no : Addr → Prop) h h' := .keeps kp
 have hcl' : ∀ n, (n, NameKind.free) ∈ csc.names → ∃ c, (eJ env.cells csc.names []).lookup n = some c ∧ env.cells.lookup n = some c := fun n hn => by
  obtain ⟨c, hc⟩ := Option.isSome_iff_exists.mp (jF env.cells csc.names [] n (.inl hn))
  exact ⟨c, hc, (hcl n c hc).1⟩
 refine ⟨⟨by rw [c1]; exact ok.kind, by rw [c3]; exact F.glob, by rw [c4]; exact F.blt, ?_, ?_, ⟨_, by rw [c2]; exact hns, fun p x v hp hv => ?_⟩, fun p x kd hp hkd => ?_, by rw [c2]; exact hL, fun x c hc => ?_, ?_⟩, fun x c hc => ?_⟩
 ·rw [c1]
  have : (bJ env.scope csc).names.map (·.1) = csc.names.map (·.1) := by
   unfold bJ
   dsimp only
   rw [List.map_map]
   apply List.map_congr_left
   rintro ⟨n, k₀⟩ ξ
   simp only [Function.comp]
   split <;> rfl
  rw [this]; exact ok.nodup
 ·rw [c1]
  unfold fp bJ
  simp only [List.length_map]
  exact ok.len
 ·exfalso
  obtain ⟨kd₀, h0, h1⟩ := names p x _ hp
  obtain ⟨i, hi, ξ⟩ := lB hv
  obtain ⟨c, hc, h2⟩ := ok.at h0
  rw [hi] at hc; cases hc
  rcases h1 with rfl | rfl
  ·cases h2
  ·-- a captured name is no local
   have hp' := hp
   rw [c1] at hp'
   unfold bJ at hp'
   dsimp only at hp'
   rw [List.getElem?_map, h0] at hp'
   simp only [Option.map_some, Option.some.injEq] at hp'
   split at hp' <;> cases hp'
 ·obtain ⟨kd₀, h0, h1⟩ := names p x _ hp
  have hk0 : kd₀ = .free := by
   rcases h1 with rfl | h1
   ·obtain ⟨c, hc, h2⟩ := ok.at h0
    rcases hkd with rfl | rfl
    ·cases c <;> cases h2
    ·rfl
   ·exact h1
  subst hk0
  obtain ⟨c, hc, h2⟩ := ok.at h0
  cases c with
  | none => cases h2
  | some i =>
   obtain ⟨kd', hi, h3⟩ := gV h2
   obtain ⟨a, v₀, ha, hv, hr⟩ := F.cell i _ kd' hi h3
   obtain ⟨a', ha', ha''⟩ := hcl' _ (List.mem_of_getElem? h0)
   rw [ha] at ha''; cases ha''
   refine ⟨a, v₀, by rw [c5]; exact ha', f7 hv (kp a), fun v hv' => ?_⟩
   obtain ⟨i', hi', hv''⟩ := lB hv'
   rw [hc] at hi'; cases hi'
   obtain ⟨rv, e1, r⟩ := hr v hv''
   exact ⟨rv, e1, r.step st ⟨[], by simp⟩⟩
 ·rw [c5] at hc
  obtain ⟨q, ξ⟩ := hcl x c hc
  obtain ⟨o1, o2, o3⟩ := F.offc x c q
  refine ⟨o1, ?_, o3⟩
  rw [c2]
  exact Nat.ne_of_lt (Nat.lt_of_lt_of_le (F.cell_lt q) hLh)
 ·rw [c5]
  exact gT F.apart csc.names [] ok.nodup (fun ξ hx => by cases hx) hfree (fun ξ hx => by cases hx) .nil
 ·rw [c5] at hc
  obtain ⟨q, ξ⟩ := hcl x c hc
  obtain ⟨v, hv⟩ := F.cells x c q
  exact ⟨v, f7 hv (kp c)⟩
theorem pT {csc : Scope} {cap : List (Option Nat)} (ok : CapOk sc csc cap) {env : Env} {loc : Loc} (hsc : env.scope = sc) (F : Fr0 C ρ h env loc) : ∀ x, (x, NameKind.free) ∈ csc.names → ∃ c, env.cells.lookup x = some c := fun x hx => by
 subst hsc
 obtain ⟨p, hp⟩ := List.mem_iff_getElem?.mp hx
 obtain ⟨c, hc, h1⟩ := ok.at hp
 cases c with
 | none => cases h1
 | some i =>
  obtain ⟨kd, hi, h2⟩ := gV h1
  obtain ⟨c, v₀, hc, ξ⟩ := F.cell i _ kd hi h2
  exact ⟨c, hc⟩
theorem m9 {csc : Scope} {cap : List (Option Nat)} (ok : CapOk sc csc cap) : ∀ x ∈ csc.names, x.2 ≠ .cell := fun x hx e => by
 obtain ⟨p, hp⟩ := List.mem_iff_getElem?.mp hx
 obtain ⟨n, kd⟩ := x
 obtain rfl : kd = .cell := e
 obtain ⟨c, hc, h1⟩ := ok.at hp
 cases c <;> cases h1
theorem mF {elt : Expr} {gen : Comprehension} {gens : List Comprehension} {csc : Scope} {pos p0 : Pos} {cap : List (Option Nat)} {iter target : Expr} {ifs : List Expr} {emit : Value → Env → Sem PySem.Fin → Sem PySem.Fin} {it : EM Src} {b : TM} {t : EM Bool} {g : Nat → CM} {ipos : Pos} {use : Option (Value → Sem Unit)}
  (hgen : gen.iter = iter)
  (hstart : ∀ it acc env, compStart (.ListComp elt (gen :: gens) csc pos) 0 it acc env = eN ipos (fun it => .compLoop (.ListComp elt (gen :: gens) csc pos) 0 it acc env) it)
  (hturn : ∀ it acc env, compTurn (.ListComp elt (gen :: gens) csc pos) 0 it acc env = f9 ipos target ifs (emit acc env) (.compLoop (.ListComp elt (gen :: gens) csc pos) 0 it acc env) it env)
  (cok : CapOk sc csc cap) (hkf : sc.kind = .function)
  (hi : io C k sc iter it) (ht : eF C dM (bJ sc csc) target b) (hte : eE C k (bJ sc csc) ifs t) (he : fF C k (bJ sc csc) emit g) (hto : ∀ loc H src H', it loc H = some (src, H') → fw src target = true) (hs : ∀ env x, foldedSetIterable iter env x = pure x)
  {A : Around} {env : Env} {s : Shared} {loc : Loc} {v : V} {Q : Value → Shared → Prop} {E : Value → Shared → Prop} (o : C.Ok) (rm : Room A k) (hsc : env.scope = sc) (R : Rep C ρ H s.heap) (F : Fr0 C ρ s.heap env loc) (e : cQ it cap b t g loc H = some (v, H'))
  (hA : ∀ ρ₄ h₄ tk₄ a L m, Post C ρ H H' no s.heap h₄ ρ₄ → Rel ρ₄ h₄ v (.ref a) → h₄.Ns L m → L ∉ ρ₄ → C.base.objs.size ≤ L → s.heap.objs.size ≤ L → compPost C.M A E use Q (.ref a) L (.ok .next) (sw s h₄ tk₄)) :
  wpAny C.M A (comprehension (.ListComp elt (gen :: gens) csc pos) csc env p0 (newList []) false (eval iter env) use) Q E s := by
 obtain ⟨src, H₁, e₁, e⟩ := an e
 have hfr := pT cok hsc F
 refine wpAny_comprehension_free (cl := eJ env.cells csc.names []) rfl (fun x => by rw [hgen]; exact hs env x) (lI hfr) cok.kind (fun x hx hl => ?_) ?_
 ·obtain ⟨p, hp⟩ := List.mem_iff_getElem?.mp hx
  obtain ⟨n, kd⟩ := x
  obtain rfl : kd = .local := hl
  exact da cok.nodup hp
 ·refine hi o rm hsc R F e₁ fun ρ₁ h₁ tk₁ I J P₁ x₁ O₁ hI hJ ok₁ => ?_
  refine wpAny_newObj_type ?_ (by show ([] : List Value).toArray.size ≤ sizeLine; simp)
  have N := i0 (ex := no) P₁.rep (vs := #[]) (xs := []) .nil
  have ha : (ρ₁ ++ [h₁.objs.size])[H₁.length]? = some h₁.objs.size := d7 P₁.rep
  generalize hh₂ : h₁.push (dn #[] 0) = h₂ at N
  refine wpAny_newFunctionEnv (m9 cok) (by intro y hy; cases hy) (fun h₃ hns hsb => ?_) cok.kind
  have hsb' : Heap.SameBut h₂.objs.size (h₂.push { cls := .type "dict", data := .dict #[] }) h₃ := hsb
  have hns' : h₃.Ns h₂.objs.size (fun ξ => none) := hns
  have P₂ : Post C ρ H (H₁ ++ [.list []]) no s.heap h₂ (ρ₁ ++ [h₁.objs.size]) := P₁.transN N
  have kp : ∀ b o, h₂.get? b = some o → h₃.get? b = some o := fun b o' e' => (hsb'.2 b (Nat.ne_of_lt (Heap.lt_size e'))).trans (Heap.get?_push_of_some _ e')
  have sz : h₂.objs.size ≤ h₃.objs.size := by rw [hsb'.1, Heap.size_push]; exact Nat.le_succ _
  have P₃' : Post C (ρ₁ ++ [h₁.objs.size]) (H₁ ++ [.list []]) (H₁ ++ [.list []]) no h₂ h₃ (ρ₁ ++ [h₁.objs.size]) := Post.keeps N.rep kp sz
  have P₃ := P₂.transN P₃'
  have hLr : h₂.objs.size ∉ ρ₁ ++ [h₁.objs.size] := fun q => Nat.lt_irrefl _ (N.rep.lt q)
  have hLb : C.base.objs.size ≤ h₂.objs.size := N.rep.size
  have hLs : s.heap.objs.size ≤ h₂.objs.size := P₂.size
  have F₂ := F.post P₂
  let cenv : Env := { newEnv csc h₂.objs.size env.globals (eJ env.cells csc.names []) env.qual none .none (some env) builtinsNs with scope := relabel csc env }
  have F₃ : Fr0 C (ρ₁ ++ [h₁.objs.size]) h₃ cenv (fp cap loc) := pS (cenv := cenv) cok hsc hkf F₂ (kh hsc) rfl rfl rfl rfl hns' kp ⟨hLr, hLb⟩ (Nat.le_refl _)
  have hIlt := x₁.lt
  have x₃ : ItAt (ρ₁ ++ [h₁.objs.size]) h₃ src 0 I J := x₁.post O₁ (N.transN P₃') (fun q => q) (fun q => q) ok₁ (by
   cases src with
   | list j xs => exact bu ok₁
   | dict j es n => exact bu ok₁
   | vals j es n => exact ⟨bu ok₁.1, ok₁.2⟩
   | range lo n => exact trivial
   | enum j xs => exact bu ok₁)
  have O₃ : OwnIt C (ρ₁ ++ [h₁.objs.size]) I J := O₁.post N hIlt.1 hIlt.2
  have h12 : h₁.objs.size ≤ h₂.objs.size := N.size
  have ncell : ∀ x c, cenv.cells.lookup x = some c → env.cells.lookup x = some c := fun x c hc => by
   rcases ib env.cells csc.names [] x c hc with q | ⟨q, q'⟩
   ·cases q
   ·obtain ⟨c', hc'⟩ := hfr x q
    rw [hc', Option.getD_some] at q'
    exact q' ▸ hc'
  have nI := ja F hI
  have nJ := ja F hJ
  split at e
  ·rename_i loc' H'' ec
   cases e
   refine lA hstart x₃ (mE (loc := fp cap loc) hturn ht hte he o rm (kh hsc) P₃.rep F₃ ha x₃ O₃ ⟨Nat.ne_of_gt (Nat.lt_of_lt_of_le hIlt.1 h12), Nat.ne_of_gt (Nat.lt_of_lt_of_le hIlt.2 h12)⟩ (fun x c hc => ⟨nI.2 x c (ncell x c hc), nJ.2 x c (ncell x c hc)⟩) (hto _ _ _ _ e₁) ec fun ρ₄ h₄ tk₄ P₄ F₄ => ?_)
   obtain ⟨m, hm, ξ⟩ := F₄.ns
   have P₀₄ : Post C ρ H H' no s.heap h₄ ρ₄ := P₃.trans P₄ fun b q => by
    rcases q with rfl | rfl | rfl
    ·exact .inr hLs
    ·exact .inr hI
    ·exact .inr hJ
   refine hA ρ₄ h₄ tk₄ h₁.objs.size h₂.objs.size m P₀₄ (.ref ?_) hm F₄.off.1 hLb hLs
   obtain ⟨u, rfl, ξ⟩ := P₄.ext
   exact dk ha
  ·exact nul e
theorem lx {L : Addr} {m : Str → Option Value} (R : Rep C ρ H h) (hm : h.Ns L m) (hL : L ∉ ρ) (hb : C.base.objs.size ≤ L) (hs : Heap.SameBut L h h') : Post C ρ H H (fun b => b = L) h h' ρ := by
 obtain ⟨oL, es, ep, hoL, hdL, ξ⟩ := hm
 refine Post.side R (fun b o n e => (hs.2 b n).trans e) (fun b q => ?_) (Nat.le_of_eq hs.1.symm)
 subst q
 refine ⟨hL, hb, fun o ho hq => ?_⟩
 rw [hoL] at ho; cases ho
 obtain ⟨ξ, vs, n, hq⟩ := hq
 rw [hdL] at hq; cases hq
section
variable {elt : Expr} {gen : Comprehension} {gens : List Comprehension} {csc : Scope} {pos : Pos} {cap : List (Option Nat)} {iter target : Expr} {ifs : List Expr} {emit : Value → Env → Sem PySem.Fin → Sem PySem.Fin} {it : EM Src} {b : TM} {t : EM Bool} {g : Nat → CM} {ipos : Pos}
theorem c8
  (hev : ∀ env, ∃ p0, eval (.ListComp elt (gen :: gens) csc pos) env = comprehension (.ListComp elt (gen :: gens) csc pos) csc env p0 (newList []) false (eval iter env))
  (hgen : gen.iter = iter)
  (hstart : ∀ it acc env, compStart (.ListComp elt (gen :: gens) csc pos) 0 it acc env = eN ipos (fun it => .compLoop (.ListComp elt (gen :: gens) csc pos) 0 it acc env) it)
  (hturn : ∀ it acc env, compTurn (.ListComp elt (gen :: gens) csc pos) 0 it acc env = f9 ipos target ifs (emit acc env) (.compLoop (.ListComp elt (gen :: gens) csc pos) 0 it acc env) it env)
  (cok : qt sc csc cap = true) (hkf : sc.kind = .function)
  (hi : io C k sc iter it) (ht : eF C dM (bJ sc csc) target b) (hte : eE C k (bJ sc csc) ifs t) (he : fF C k (bJ sc csc) emit g) (hto : ∀ loc H src H', it loc H = some (src, H') → fw src target = true) (hs : ∀ env x, foldedSetIterable iter env x = pure x) :
  SimE C k sc (.ListComp elt (gen :: gens) csc pos) (cQ it cap b t g) := fun A env s ρ H loc v H' Q E o rm hsc R F e hQ => by
 obtain ⟨p0, ev⟩ := hev env
 dsimp only
 rw [ev]
 refine mF hgen hstart hturn (.of cok) hkf hi ht hte he hto hs o rm hsc R F e fun ρ₄ h₄ tk₄ a L m P r hm hL hb hle => ⟨m, hm, fun h₅ hs₅ => ?_⟩
 have P₅ := lx P.rep hm hL hb hs₅
 exact hQ ρ₄ h₅ tk₄ (.ref a) (P.trans P₅ fun b q => by subst q; exact .inr hle) (r.post P₅)
theorem eO {y : Str} {py spos : Pos} {i : Nat}
  (hev : ∀ env, ∃ p0, ∀ u, evalThenUse (.ListComp elt (gen :: gens) csc pos) env u = (do let _ ← comprehension (.ListComp elt (gen :: gens) csc pos) csc env p0 (newList []) false (eval iter env) (some u)))
  (hgen : gen.iter = iter)
  (hstart : ∀ it acc env, compStart (.ListComp elt (gen :: gens) csc pos) 0 it acc env = eN ipos (fun it => .compLoop (.ListComp elt (gen :: gens) csc pos) 0 it acc env) it)
  (hturn : ∀ it acc env, compTurn (.ListComp elt (gen :: gens) csc pos) 0 it acc env = f9 ipos target ifs (emit acc env) (.compLoop (.ListComp elt (gen :: gens) csc pos) 0 it acc env) it env)
  (cok : qt sc csc cap = true) (hkf : sc.kind = .function)
  (hi : io C k sc iter it) (ht : eF C dM (bJ sc csc) target b) (hte : eE C k (bJ sc csc) ifs t) (he : fF C k (bJ sc csc) emit g) (hto : ∀ loc H src H', it loc H = some (src, H') → fw src target = true) (hs : ∀ env x, foldedSetIterable iter env x = pure x)
  (hy : sc.names[i]? = some (y, .local)) (hsw : ∀ env : Env, env.scope = sc → swapsWith (.ListComp elt (gen :: gens) csc pos) (some (.Name y py)) spos.line env = pure true) :
  SimS C k sc (.Assign [.Name y py] (.ListComp elt (gen :: gens) csc pos) spos) (sSet i (cQ it cap b t g)) := fun A env s ρ H loc x loc' H' Q E o rm hsc R F e hQ => by
 obtain ⟨v, H₁, e₁, e⟩ := an e
 cases e
 obtain ⟨p0, ev⟩ := hev env
 dsimp only
 rw [exec_Assign_Name_used _ _ _ _ (hsw env hsc)]
 refine wpAny_bind (wpAny_standAt (wpAny_bind ?_))
 rw [ev]
 refine wpAny_bind (mF (Q := fun ξ s' => wpAny C.M A (pure ()) (fun ξ s'' => wpAny C.M A (pure Flow.next) Q E s'') E s') hgen hstart hturn (.of cok) hkf hi ht hte he hto hs o rm hsc R F e₁ fun ρ₄ h₄ tk₄ a L m P r hm hL hb hle => ?_)
 have F₄ := F.post P
 subst hsc
 refine assign_Name (F₄.store P.rep hy (.inl rfl) r fun h₅ tk₅ P₅ F₅ => ?_)
 have neL : env.locals ≠ L := Nat.ne_of_lt (Nat.lt_of_lt_of_le F.loc_lt hle)
 have neC : ∀ x c, env.cells.lookup x = some c → c ≠ L := fun x c hc => Nat.ne_of_lt (Nat.lt_of_lt_of_le (F.cell_lt hc) hle)
 have kL : ∀ o, h₄.get? L = some o → h₅.get? L = some o := fun o' e' => P₅.step.oth L o' e' (by
  rintro (q | q | ⟨x, ξ, q⟩)
  ·exact hL q
  ·exact neL q.symm
  ·exact neC x L q rfl)
 have hm₅ : h₅.Ns L m := Ns_at hm kL
 refine ⟨m, hm₅, fun h₆ hs₆ => wpAny_pure (wpAny_pure ?_)⟩
 have P₆ := lx P₅.rep hm₅ hL hb hs₆
 refine hQ ρ₄ h₆ tk₅ _ ((P.own.trans0 P₅).trans P₆ fun b q => by subst q; exact .inr hle) (F₅.postX P₆ (fun q => neL q) fun x c hc q => neC x c hc q) rfl
end
end
section
open PySem.Builtin.Str
noncomputable def V.isNone : V → Option Bool
 | .none => some true
 | .raw _ => Option.none
 | _ => some false
noncomputable def mIs (neg : Bool) (a b : V) : OM V := fun H => match b with
 | .none => a.isNone.map fun t => (.bool (neg.xor t), H)
 | _ => none
noncomputable def dK : EM (List (V × V)) := eC []
noncomputable def bd (f g : EM V) (r : EM (List (V × V))) : EM (List (V × V)) := fun loc => bnd (f loc) fun a => bnd (g loc) fun b => bnd (r loc) fun l => rt ((a, b) :: l)
noncomputable def jo (d : V) : List (V × V) → OM Unit
 | [] => rt ()
 | (a, b) :: r => bnd (eB d a b) fun ξ => jo d r
noncomputable def cP (f : EM (List (V × V))) : EM V := fun loc H => bnd (f loc) (fun l => bnd (jo (.ref H.length) l) fun ξ => rt (.ref H.length)) (H ++ [.dict [] 0])
noncomputable def ch : EM V := fun loc H => some (.ref H.length, H ++ [.dict [] 0])
noncomputable def mLen : List V → OM V
 | [.ref l] => fun H => match H[l]? with
  | some (.list xs) => if xs.length ≤ lim then some (.int xs.length, H) else none
  | some (.flist xs) => if xs.length ≤ lim then some (.int xs.length, H) else none
  | some (.dict es _) => if es.length ≤ lim then some (.int es.length, H) else none
  | _ => none
 | _ => cZ
noncomputable def mInt : List V → OM V
 | [.bool b] => rt (.int (if b then 1 else 0))
 | _ => cZ
noncomputable def li : List V → Option (List Int)
 | [] => some []
 | .int i :: r => (li r).map (i :: ·)
 | _ => none
noncomputable def mSum : List V → OM V
 | [.ref l] => fun H => match H[l]? with
  | some (.list xs) => (li xs).map fun is => (.int is.sum, H)
  | _ => none
 | _ => cZ
noncomputable def eG : List V → OM V
 | [.ref l] => fun H => match H[l]? with
  | some (.list xs) => if xs.length ≤ lim then some (.ref H.length, H ++ [.list xs]) else none
  | some (.dict es _) => if es.length ≤ lim then some (.ref H.length, H ++ [.list (es.map fun e => .ofKey e.1)]) else none
  | _ => none
 | _ => cZ
noncomputable def fx (x : Str) (k : Int) : Str := if (strSliceIndices (some k) none 1 x.length).length == x.length then x else ⟨((strSliceIndices (some k) none 1 x.length).filterMap (x.cps[·]?)).toArray⟩
noncomputable def k4 (a b : V) : OM V := fun H => match a, b with
 | .str x, .int k => if (fx x k).length ≤ lim then some (.str (fx x k), H) else none
 | _, _ => none
theorem EntP.nilD {ρ : List Addr} {h : Heap} : All2 (EntP ρ h) [] [] := .nil
section
variable {C : Cx} {k : Nat} {sc : Scope} {ρ : List Addr} {H : MH} {h : Heap}
theorem mIs_inv {neg : Bool} {a b v : V} {H H' : MH} (e : mIs neg a b H = some (v, H')) : ∃ t, a.isNone = some t ∧ b = .none ∧ v = .bool (neg.xor t) ∧ H' = H := by
 unfold mIs at e
 cases b with
 | none =>
  obtain ⟨t, ht, e⟩ := Option.map_eq_some_iff.mp e
  cases e
  exact ⟨t, ht, rfl, rfl, rfl⟩
 | _ => exact nul e
theorem op_isG (neg : Bool) : Op2 C k (compareOp (if neg then .IsNot else .Is)) (mIs neg) := fun A s ρ H a b ra rb v H' Q E o rm R r₁ r₂ e hQ => by
 obtain ⟨t, ht, rfl, rfl, rfl⟩ := mIs_inv e
 ·cases r₂.none_
  have key : plainIs ra .none = true ∧ (ra == Value.none) = t := by
   cases a with
   | none => cases r₁.none_; cases ht; exact ⟨rfl, rfl⟩
   | bool b => cases r₁.bool_; cases ht; exact ⟨rfl, rfl⟩
   | int i => obtain ⟨u, rfl⟩ := r₁.int_; cases ht; exact ⟨rfl, rfl⟩
   | str i => obtain ⟨u, rfl⟩ := r₁.str_; cases ht; exact ⟨rfl, rfl⟩
   | tup l => obtain ⟨u, us, rfl, ξ⟩ := r₁.tup_; cases ht; exact ⟨rfl, rfl⟩
   | ref l => obtain ⟨u, rfl, ξ⟩ := r₁.ref_; cases ht; exact ⟨rfl, rfl⟩
   | raw u => cases ht
  cases neg with
  | false =>
   refine wpAny_is_plain key.1 ?_
   rw [key.2]
   simpa using hQ ρ s.heap s.toks _ (.refl R) .bool
  | true =>
   refine wpAny_isNot_plain key.1 ?_
   rw [key.2]
   simpa using hQ ρ s.heap s.toks _ (.refl R) .bool
theorem op_is : Op2 C k (compareOp .Is) (mIs false) := op_isG false
theorem nO : Op2 C k (compareOp .IsNot) (mIs true) := op_isG true
theorem pd {A : Around} {s : Shared} {a b c : V} {x : Addr} {rb rc : Value} {v : V} {H' : MH} {Q : Unit → Shared → Prop} {E : Value → Shared → Prop} (o : C.Ok) (rm : Room A (k + 1)) (R : Rep C ρ H s.heap) (r₁ : Rel ρ s.heap a (.ref x)) (r₂ : Rel ρ s.heap b rb) (r₃ : Rel ρ s.heap c rc)
  (e : eB a b c H = some (v, H')) (hQ : ∀ h' tk, Post C ρ H H' no s.heap h' ρ → Q () (sw s h' tk)) : wpAny C.M A (dictSet x rb rc) Q E s := by
 obtain ⟨l, es, rfl, hl, e⟩ := d6 e
 try dsimp only at e
 split at e
 ·rename_i kx hk
  split at e
  ·rename_i hc
   cases e
   simp only [Bool.and_eq_true, decide_eq_true_eq] at hc
   obtain ⟨a, q, ha, ob⟩ := cX R hl r₁
   cases q
   rw [V.key?_eq hk] at r₂
   cases kx with
   | p p =>
    obtain ⟨kvs, hd, a2⟩ := fG ob hc.1
    have hlen : kvs.length ≤ sizeLine := by rw [← a2.length, a6]; have := fj; omega
    exact wpAny_dictSet_pairs (hsz := hlen) (Rel.ofPrim.mp r₂) hd fun h' hd' hs => hQ _ _ (jD R ha hs hd' (EntP.put a2 p r₃) (hY R ha) hl)
   | t t =>
    obtain ⟨xs, hd, a2⟩ := pR ob hc.1
    have hlen : xs.length ≤ sizeLine := by rw [← a2.length, a6]; have := fj; omega
    obtain ⟨c, rfl, hkc⟩ := (Rel.tupKey (C := C)).mp r₂
    exact wpAny_dictSet_heap (knd := C.tk) (hsz := hlen) (rm.u0) hkc hd fun h' hd' hs => hQ _ _ (mC R ha hs hd' (EntT.put a2 t r₃) (hY R ha) hl)
  ·exact nul e
 ·exact nul e
inductive RelP (ρ : List Addr) (h : Heap) : List (V × V) → List (Value × Value) → Prop
 | nil : RelP ρ h [] []
 | cons {a b l ra rb vs} : Rel ρ h a ra → Rel ρ h b rb → RelP ρ h l vs → RelP ρ h ((a, b) :: l) ((ra, rb) :: vs)
theorem RelP.post {ρ' : List Addr} {h' : Heap} {H' : MH} {ex : Addr → Prop} (P : Post C ρ H H' ex h h' ρ') {l : List (V × V)} {vs : List (Value × Value)} (x : RelP ρ h l vs) : RelP ρ' h' l vs := by
 induction x with
 | nil => exact .nil
 | cons a b ξ ih => exact .cons (a.post P) (b.post P) ih
noncomputable abbrev SimP (C : Cx) (k : Nat) (sc : Scope) (t : Env → List (Sem Value × Sem Value)) (f : EM (List (V × V))) : Prop := Sim C k sc (fun env => evalPairs (t env)) RelP f
theorem simP_nil : SimP C k sc (fun ξ => []) dK := fun A env s ρ H loc v' H' Q E o rm hs R F e hQ => by
 cases e
 exact evalPairs_nil (hQ ρ s.heap s.toks [] (.refl R) .nil)
theorem qN {x y : Expr} {pos : Pos} {r : Env → List (Sem Value × Sem Value)} {f g : EM V} {l : EM (List (V × V))} (h1 : SimE C k sc x f) (h2 : SimE C k sc y g) (h3 : SimP C k sc r l) :
  SimP C k sc (fun env => (eval x env, do let v ← eval y env; standAt pos; pure v) :: r env) (bd f g l) := fun A env s ρ H loc v' H' Q E o rm hs R F e hQ => by
 obtain ⟨a, H₁, e₁, e⟩ := an e
 obtain ⟨b, H₂, e₂, e⟩ := an e
 obtain ⟨c, H₃, e₃, e⟩ := an e
 cases e
 refine evalPairs_cons (h1 o rm hs R F e₁ fun ρ₁ h₁ tk₁ ra P₁ r₁ => wpAny_bind (h2 o rm hs P₁.rep (F.post P₁) e₂ fun ρ₂ h₂ tk₂ rb P₂ r₂ => wpAny_bind (wpAny_standAt (wpAny_pure ?_))))
 exact h3 o rm hs P₂.rep ((F.post P₁).post P₂) e₃ fun ρ₃ h₃ tk₃ vs P₃ r₃ => hQ ρ₃ h₃ tk₃ _ (P₁.transN (P₂.transN P₃)) (.cons ((r₁.post P₂).post P₃) (r₂.post P₃) r₃)
noncomputable def mS (pos : Pos) : List (Option Expr) → List Expr → Env → List (Sem Value × Sem Value)
 | some x :: ks, y :: vs, env => (eval x env, do let v ← eval y env; standAt pos; pure v) :: mS pos ks vs env
 | _, _, _ => []
noncomputable abbrev qy (C : Cx) (k : Nat) (sc : Scope) (pos : Pos) (keys : List (Option Expr)) (values : List Expr) (f : EM (List (V × V))) : Prop := SimP C k sc (mS pos keys values) f
theorem dQ {pos : Pos} : qy C k sc pos [] [] dK := simP_nil
theorem aU {x y : Expr} {pos : Pos} {ks : List (Option Expr)} {vs : List Expr} {f g : EM V} {l : EM (List (V × V))} (h1 : SimE C k sc x f) (h2 : SimE C k sc y g) (h3 : qy C k sc pos ks vs l) : qy C k sc pos (some x :: ks) (y :: vs) (bd f g l) := qN h1 h2 h3
theorem put_all {A : Around} {E : Value → Shared → Prop} {l : Nat} {x : Addr} (o : C.Ok) (rm : Room A (k + 1)) : ∀ (vs : List (Value × Value)) (kvs : List (V × V)) (ρ : List Addr) (H H' : MH) (s : Shared) (Q : PUnit → Shared → Prop) (f : Value × Value → PUnit → Sem (ForInStep PUnit)),
  (∀ a b u, f (a, b) u = (do dictSet x a b; pure (.yield PUnit.unit))) → Rep C ρ H s.heap → ρ[l]? = some x → RelP ρ s.heap kvs vs → jo (.ref l) kvs H = some ((), H') →
  (∀ h' tk, Post C ρ H H' no s.heap h' ρ → Q PUnit.unit (sw s h' tk)) → wpAny C.M A (forIn vs PUnit.unit f) Q E s := by
 intro q_; induction q_ with
 | nil =>
  intro ξ ρ H H' s Q f hf R hx r e hQ
  cases r
  cases e
  rw [List.forIn_nil]
  exact wpAny_pure (hQ s.heap s.toks (.refl R))
 | cons ab vs ih =>
  obtain ⟨a, b⟩ := ab
  intro ξ ρ H H' s Q f hf R hx r e hQ
  cases r with
  | cons r1 r2 r3 =>
   obtain ⟨u, H₁, e₁, e⟩ := an e
   rw [List.forIn_cons, hf]
   refine wpAny_bind (wpAny_bind (pd o rm R (.ref hx) r1 r2 e₁ fun h₁ tk₁ P₁ => wpAny_pure ?_))
   exact ih _ ρ H₁ H' _ Q f hf P₁.rep hx (r3.post P₁) e fun h₂ tk₂ P₂ => hQ h₂ tk₂ (P₁.transN P₂)
theorem n9 {ex : Addr → Prop} (R : Rep C ρ H h) : Post C ρ H (H ++ [.dict [] 0]) ex h (h.push { cls := .type "dict", data := .dict #[] }) (ρ ++ [h.objs.size]) :=
 Post.alloc R { cls := .type "dict", data := .dict #[] } (.dict [] 0) fun h' e ρ'' => .inr (.inl ⟨[], Heap.DictOf.new h, .nil⟩)
theorem qM {keys : List (Option Expr)} {values : List Expr} {pos : Pos} {t : Env → List (Sem Value × Sem Value)} {f : EM (List (V × V))} (hf : SimP C (k + 1) sc t f)
  (hshape : ∀ env, (evalEachOpt keys env).zip ((evalEach values env).map fun v => do let x ← v; standAt pos; pure x) = (t env).map fun p => (some p.1, p.2)) (h0 : ∀ env, (t env).length ≠ 0) (hlen : ∀ env, (t env).length ≤ 15) :
  SimE C (k + 1) sc (.Dict keys values pos) (cP f) := fun A env s ρ H loc v' H' Q E o rm hs R F e hQ => by
 obtain ⟨l, H₁, e₁, e⟩ := an e
 obtain ⟨u, H₂, e₂, e⟩ := an e
 cases e
 dsimp only
 rw [arm_eval_Dict, hshape, dictDisplay_pairs (t env) (fun q => h0 env (by rw [q]; rfl)) (by have := hlen env; omega)]
 refine wpAny_bind (wpAny_standAt (wpAny_bind ?_))
 unfold subDict
 have N := n9 (ex := no) R
 refine wpAny_bind (wpAny_alloc ?_)
 refine wpAny_bind (wpAny_holding ?_)
 rw [if_pos (hlen env)]
 refine wpAny_bind (hf o rm hs N.rep (F.post N) e₁ fun ρ₁ h₁ tk₁ vs P₁ r₁ => ?_)
 have ha : ρ₁[H.length]? = some s.heap.objs.size := by
  obtain ⟨w, rfl, ξ⟩ := P₁.ext
  exact dk (d7 R)
 refine wpAny_holding ?_
 refine wpAny_bind (put_all o rm vs l ρ₁ H₁ H' _ _ _ (fun a b u => rfl) P₁.rep ha r₁ e₂ fun h₂ tk₂ P₂ => wpAny_pure (wpAny_pure (wpAny_pure ?_)))
 exact hQ ρ₁ h₂ tk₂ _ (N.transN (P₁.transN P₂)) (.ref ha)
theorem qX {pos : Pos} {env : Env} : ∀ (ks : List (Option Expr)) (vs : List Expr), (mS pos ks vs env).length ≤ ks.length := by
 intro ks
 induction ks with
 | nil => exact fun vs => Nat.zero_le 0
 | cons a ks ih =>
  intro vs
  cases a with
  | none => exact Nat.zero_le _
  | some x =>
   cases vs with
   | nil => exact Nat.zero_le _
   | cons y vs => exact Nat.succ_le_succ (ih vs)
theorem dN {x y : Expr} {ks : List (Option Expr)} {vs : List Expr} {pos : Pos} {f : EM (List (V × V))} (hf : qy C (k + 1) sc pos (some x :: ks) (y :: vs) f)
  (hshape : ∀ env, (evalEachOpt (some x :: ks) env).zip ((evalEach (y :: vs) env).map fun v => do let x ← v; standAt pos; pure x) = (mS pos (some x :: ks) (y :: vs) env).map fun p => (some p.1, p.2)) (hl : Nat.ble ks.length 14 = true) :
  SimE C (k + 1) sc (.Dict (some x :: ks) (y :: vs) pos) (cP f) := qM hf hshape (fun ξ => Nat.succ_ne_zero _) fun ξ => Nat.le_trans (qX _ _) (Nat.succ_le_succ (Nat.le_of_ble_eq_true hl))
theorem bp {pos : Pos} : SimE C k sc (.Dict [] [] pos) ch := fun A env s ρ H loc v' H' Q E o rm hs R F e hQ => by
 cases e
 exact wpAny_Dict_empty (hQ _ _ _ _ (n9 R) (.ref (d7 R)))
theorem raw_len {A : Around} {E : Value → Shared → Prop} {s : Shared} {d : Addr} {o : Obj} {es : Array DictEntry} {ep : Nat} {Q : Value → Shared → Prop} (lo : (d == sysModules) = false) (x : RawD s.heap d o es ep) (hfit : (es.size : Int) < 2 ^ 63)
  (h : Q (.int es.size (s.toks + 1)) { s with toks := s.toks + 1 + 1 }) : wpAny C.M A (call (.builtin "len") [.ref d]) Q E s := by
 refine Calls.call_function_entry kind_len plain_len entry_len (args_len1 _) ?_
 unfold Builtin.«len»
 refine wpAny_bind (m := oneArg "len" _) (wpAny_pure ?_)
 refine wpAny_bind (m := callSpecial? (.ref d) (Str.ofString "__len__")) (wpAny_callSpecial?_slot (name := Str.ofString "__len__") x.typeIs PySem.F.slot_dict_len
  (wpAny_call_entry PySem.F.slot_dict_len x.typeIs PySem.F.entry_dict_len ?_ (PySem.F.args_dict_len_1 _)))
 show wpAny _ _ (dictSize d >>= _) _ _ s
 unfold dictSize
 refine wpAny_bind (wpAny_bind (wpAny_dictEntries x.get x.data (wpAny_pure ?_)))
 show wpAny _ _ (Builtin.Dict.pendingCount d >>= _) _ _ s
 refine wpAny_bind (wpAny_pendingCount_other lo ?_)
 refine wpAny_bind (wpAny_mkInt (wpAny_pure ⟨_, rfl, ?_⟩))
 show wpAny _ _ _ _ _ { s with toks := s.toks + 1 }
 refine wpAny_bind (wpAny_holding (wpAny_pure ?_))
 refine wpAny_bind (wpAny_letGo ?_)
 show wpAny _ _ (if ((es.size + 0 : Nat) : Int) < 0 then _ else _) _ _ _
 rw [if_neg (by omega)]
 show wpAny _ _ (if ((es.size + 0 : Nat) : Int) ≥ 2 ^ 63 then _ else _) _ _ _
 rw [if_neg (by omega)]
 exact wpAny_bind (wpAny_mkInt (wpAny_pure ⟨_, rfl, h⟩))
theorem gZ {ex : Addr → Prop} {h' : Heap} {m : MObj} {o : Obj} (R : Rep C ρ H h) (kp : ∀ b o, h.get? b = some o → h'.get? b = some o) (hg : h'.get? h.objs.size = some o) (hO : ObjAt C (ρ ++ [h.objs.size]) h' h.objs.size m) : Post C ρ H (H ++ [m]) ex h h' (ρ ++ [h.objs.size]) := by
 have hle : h.objs.size ≤ h'.objs.size := Nat.le_of_lt (Heap.lt_size hg)
 have P := Post.keeps (ex := ex) R kp hle
 have R' := P.rep
 refine ⟨P.step, ⟨R'.keep, R'.size, by simp [R.len], ?_, R.low, fun a ha => ?_, fun i a x hi hx => ?_⟩, hle, ⟨[h.objs.size], rfl, fun a ha => ?_⟩, fun i a es n hi e => ⟨es, n, bu e, Nat.le_refl _, fun ξ => ⟨rfl, by obtain ⟨o', ho', ξ⟩ := R.mem (List.mem_of_getElem? hi); exact (kp a o' ho').trans ho'.symm⟩⟩, fun i a xs hi e => ⟨bu e, by obtain ⟨o', ho', ξ⟩ := R.mem (List.mem_of_getElem? hi); exact (kp a o' ho').trans ho'.symm⟩⟩
 ·refine List.nodup_append.mpr ⟨R.nodup, by simp, fun a hq b hb => ?_⟩
  rw [List.mem_singleton.mp hb]
  exact Nat.ne_of_lt (R.lt hq)
 ·rcases List.mem_append.mp ha with ha | ha
  ·exact R.off a ha
  ·rw [List.mem_singleton.mp ha]; exact ⟨Heap.get?_none_of_le R.size, Nat.ne_of_gt (Nat.lt_of_lt_of_le R.low R.size)⟩
 ·rcases Nat.lt_or_ge i ρ.length with hl | hl
  ·rw [List.getElem?_append_left hl] at hi
   rw [List.getElem?_append_left (by rw [← R.len]; exact hl)] at hx
   exact (R'.obj i a x hi hx).step (ex := fun ξ => False) (.refl _ _) ⟨[h.objs.size], rfl⟩ fun ξ e => e
  ·rw [List.getElem?_append_right hl] at hi
   rw [List.getElem?_append_right (by rw [← R.len]; exact hl)] at hx
   have hi0 : i - ρ.length = 0 := by
    have := (List.getElem?_eq_some_iff.mp hi).1
    simp at this; omega
   rw [hi0] at hi
   rw [← R.len, hi0] at hx
   simp at hi hx
   subst hi hx
   exact hO
 ·rw [List.mem_singleton.mp ha]; exact Nat.le_refl _
theorem on {h' : Heap} {its : Array Value} {c : Nat} {xs : List V} (R : Rep C ρ H h) (kp : ∀ b o, h.get? b = some o → h'.get? b = some o) (hg : h'.get? h.objs.size = some (dn its c)) (r : RelL ρ h xs its.toList) :
  Post C ρ H (H ++ [.list xs]) no h h' (ρ ++ [h.objs.size]) :=
 gZ R kp hg ⟨its, c, hg, r.step (ex := no) (.keeps kp) ⟨_, rfl⟩⟩
theorem mQ {ρ : List Addr} {h : Heap} : ∀ (xs : List V) (vs : List Value), vs.length = xs.length → (∀ (i : Nat) (x : V) (v : Value), xs[i]? = some x → vs[i]? = some v → Rel ρ h x v) → RelL ρ h xs vs := by
 intro xs; induction xs with
 | nil =>
  intro vs e f
  cases vs with
  | nil => exact .nil
  | cons ξ ξ => cases e
 | cons x xs ih =>
  intro vs e f
  cases vs with
  | nil => cases e
  | cons v vs => exact .cons (f 0 x v rfl rfl) (ih vs (Nat.succ.inj e) fun i x v a b => f (i + 1) x v a b)
theorem cF : OpL C k (fun vs => call (.builtin "len") vs) mLen := fun A s ρ H l vs v H' Q E o rm R r e hQ => by
 unfold mLen at e
 split at e
 ·rename_i l
  obtain ⟨u, us, rfl, r₁, r⟩ := r.uncons
  cases r.unnil
  split at e
  ·rename_i xs hl
   split at e
   ·rename_i hz
    cases e
    obtain ⟨a, vs, n, rfl, ha, ho, rl, hsz⟩ := bU R hl r₁
    refine len_list ⟨_, ho, rfl, n, rfl⟩ (by rw [hsz]; have : lim = 100000 := rfl; omega) ?_
    rw [hsz]
    exact hQ ρ s.heap _ _ (.refl R) .int
   ·exact nul e
  ·rename_i xs hl
   split at e
   ·rename_i hz
    cases e
    obtain ⟨a, ob, vs, n, rfl, ha, ho, hcl, hdt, rl, hsz⟩ := oz R hl r₁
    refine len_list ⟨_, ho, hcl, n, hdt⟩ (by rw [hsz]; have : lim = 100000 := rfl; omega) ?_
    rw [hsz]
    exact hQ ρ s.heap _ _ (.refl R) .int
   ·exact nul e
  ·rename_i es n hl
   split at e
   ·rename_i hz
    cases e
    have hl' : lim = 100000 := rfl
    obtain ⟨a, rfl, ha, ob⟩ := cX R ⟨n, hl⟩ r₁
    rcases ob with ⟨kvs, hd, a2⟩ | ⟨xs, hd, a2⟩
    ·refine call_len_dict (eR o R ha) hd (by rw [← a2.length]; omega) ?_
     rw [← a2.length]
     exact hQ ρ s.heap _ _ (.refl R) .int
    ·obtain ⟨od, des, ep, hod, hxd, hdd, he, ξ⟩ := hd
     have hs : des.size = es.length := by rw [a2.length]; exact size_of_entries he
     refine raw_len (eR o R ha) ⟨hod, hxd, hdd⟩ (by rw [hs]; omega) ?_
     rw [hs]
     exact hQ ρ s.heap _ _ (.refl R) .int
   ·exact nul e
  ·exact nul e
 ·exact nul e
theorem nP : OpL C k (fun vs => call (.type "int") vs) mInt := fun A s ρ H l vs v H' Q E o rm R r e hQ => by
 cases l with
 | nil => exact nul e
 | cons a l =>
  cases a with
  | bool b =>
   cases l with
   | nil =>
    obtain ⟨u, us, rfl, r₁, r⟩ := r.uncons
    cases r.unnil
    cases e
    cases r₁.bool_
    exact call_int_bool (hQ ρ s.heap _ _ (.refl R) .int)
   | cons ξ ξ => exact nul e
  | _ => exact nul e
theorem la {ρ : List Addr} {h : Heap} : ∀ {xs : List V} {vs : List Value} {is : List Int}, RelL ρ h xs vs → li xs = some is → ∃ ys : List (Int × Tok), vs = ys.map (fun p => Value.int p.1 p.2) ∧ ys.map (·.1) = is
 | [], vs, is, r, e => by cases r.unnil; cases e; exact ⟨[], rfl, rfl⟩
 | x :: xs, vs, is, r, e => by
  obtain ⟨u, us, rfl, r1, r'⟩ := r.uncons
  cases x with
  | int i =>
   obtain ⟨js, hj, rfl⟩ := Option.map_eq_some_iff.mp e
   obtain ⟨t, rfl⟩ := r1.int_
   obtain ⟨ys, rfl, rfl⟩ := la r' hj
   exact ⟨(i, t) :: ys, rfl, rfl⟩
  | _ => exact nul e
theorem o6 : OpL C k (fun vs => call (.builtin "sum") vs) mSum := fun A s ρ H l vs v H' Q E o rm R r e hQ => by
 unfold mSum at e
 split at e
 ·rename_i l
  obtain ⟨u, us, rfl, r₁, r⟩ := r.uncons
  cases r.unnil
  split at e
  ·rename_i xs hl
   obtain ⟨is, hi, e⟩ := Option.map_eq_some_iff.mp e
   cases e
   obtain ⟨a, vs, n, rfl, ha, ho, rl, hsz⟩ := bU R hl r₁
   obtain ⟨ys, h1, h2⟩ := la rl hi
   have hv : vs = intItems ys.toArray := by
    apply Array.toList_inj.mp
    rw [h1]; simp [intItems]
   refine dd (sum_intListG rm.hd ⟨_, ho, rfl, n, by rw [hv]⟩ fun h' tk t' hk hle => ?_)
   rw [preSum_eq, List.take_of_length_le (by simp)]
   have P := Post.keeps (ex := no) R hk hle
   have := hQ ρ h' tk (.int is.sum t') P .int
   simpa [h2] using this
  ·exact nul e
 ·exact nul e
theorem gh : OpL C k (fun vs => call (.type "list") vs) eG := fun A s ρ H l vs v H' Q E o rm R r e hQ => by
 unfold eG at e
 split at e
 ·rename_i l
  obtain ⟨u, us, rfl, r₁, r⟩ := r.uncons
  cases r.unnil
  split at e
  ·rename_i xs hl
   split at e
   ·rename_i hz
    cases e
    have hlim : lim = 100000 := rfl
    obtain ⟨a, vs, n, rfl, ha, ho, rl, hsz⟩ := bU R hl r₁
    refine call_list_seq a (.inl rfl) ho rfl rfl (fun h' c' kp hg => ?_) (by rw [hsz, a6]; omega)
    exact hQ _ _ _ _ (on R kp hg rl) (.ref (d7 R))
   ·exact nul e
  ·rename_i es n hl
   split at e
   ·rename_i hz
    cases e
    have hlim : lim = 100000 := rfl
    obtain ⟨a, rfl, ha, ob⟩ := cX R ⟨n, hl⟩ r₁
    obtain ⟨od, des, ep, raw, hsz, hk⟩ := gS ob
    refine kdl_call (ql (eR o R ha)) rm.hd raw (by rw [hsz, a6]; omega) fun h' tk acc c' kp hg hits => ?_
    refine hQ _ _ _ _ (on R kp hg (mQ _ _ (by simp [hits.1, hsz]) fun i x v hx hv => ?_)) (.ref (d7 R))
    rw [List.getElem?_map, Option.map_eq_some_iff] at hx
    obtain ⟨e, he, rfl⟩ := hx
    obtain ⟨de, h1, h2⟩ := hits.2 i v (by rw [← Array.getElem?_toList]; exact hv)
    obtain ⟨de', h3, h4⟩ := hk i e he
    rw [h1] at h3; cases h3
    exact h2 ▸ h4
   ·exact nul e
  ·exact nul e
 ·exact nul e
theorem rq {a b v : V} {H H' : MH} (e : k4 a b H = some (v, H')) : ∃ x k, a = .str x ∧ b = .int k ∧ (fx x k).length ≤ lim ∧ .str (fx x k) = v ∧ H = H' := by
 cases a with
 | str x =>
  cases b with
  | int k =>
   unfold k4 at e
   dsimp only at e
   split at e
   ·rename_i h; cases e; exact ⟨x, k, rfl, rfl, h, rfl, rfl⟩
   ·exact nul e
  | _ => exact nul e
 | _ => exact nul e
theorem p9 {value lower : Expr} {p pos : Pos} {f g : EM V} (hv : SimE C k sc value f) (hl : SimE C k sc lower g) (ht : ∀ o r, letTemporaryGo value o r = pure ()) : SimE C k sc (.Subscript value (.Slice (some lower) none none p) pos) (e2 k4 f g) := fun A env s ρ H loc v' H' Q E o rm hs R F e hQ => by
 obtain ⟨a, H₁, e₁, e⟩ := an e
 obtain ⟨b, H₂, e₂, e⟩ := an e
 obtain ⟨x, j, rfl, rfl, hz, rfl, rfl⟩ := rq e
 refine wpAny_Subscript_str_slice (hv o rm hs R F e₁ fun ρ₁ h₁ tk₁ ra P₁ r₁ => ?_) ht
 show wpAny _ _ (eval lower env) _ _ _
 refine hl o rm hs P₁.rep (F.post P₁) e₂ fun ρ₂ h₂ tk₂ rb P₂ r₂ => ?_
 obtain ⟨t, rfl⟩ := r₁.str_
 obtain ⟨t', rfl⟩ := r₂.int_
 refine wpAny_pure ⟨x, t, some (j, t'), none, rfl, rfl, rfl, ?_⟩
 have P₃ := Post.keeps (ex := no) P₂.rep (fun b o e => Heap.get?_push_of_some ({ cls := .type "slice", data := .fields #[.int j t', .none, .none] } : Obj) e) (cv _ _)
 have fin := fun tk t₀ => hQ ρ₂ _ tk (.str (fx x j) t₀) (P₁.transN (P₂.transN P₃)) .str
 have hz' : (fx x j).length ≤ sizeLine := Nat.le_trans hz (by rw [a6]; decide)
 clear hz
 unfold sliceMade slicePicked
 unfold fx at fin hz'
 simp only [Option.map_some, Option.map_none, Option.getD_none, beq_self_eq_true, Bool.true_and]
 split
 ·rename_i hc
  simp only [hc, if_true] at fin
  exact fin _ _
 ·rename_i hc
  simp only [hc] at fin hz'
  exact ⟨hz', fin _ _⟩
end
end
structure FnIs (C : Cx) (f : Addr) (fd : FuncData) (body : List Stmt) (n : Nat) (dv : List V) (dr : List Value) : Prop where
 at_ : ∃ oc od sl, C.K.lookup f = some ⟨oc, od, .func fd, sl⟩
 body : fd.body = .stmts body
 glob : fd.globals = mainGlobals
 blt : fd.builtins = builtinsNs
 clos : fd.closure = []
 code : codeIn C.K fd.code fd.qualname = true
 co : fd.scope.isCoroutine = false
 gen : fd.scope.isGenerator = false
 kind : fd.scope.kind = .function
 nodup : (fd.scope.names.map (·.1)).Nodup
 size : n + dv.length ≤ fd.scope.names.length
 par : ((fd.scope.names.take (n + dv.length)).all fun x => x.2 == .local || x.2 == .cell) = true
 nofree : (fd.scope.names.all fun x => x.2 != .free) = true
 dflt : ∀ ρ h, RelL ρ h dv dr
 bind : ∀ (s : Shared) (vals : List Value), C.K.In s.heap → vals.length = n → BindsTo s fd ⟨vals, []⟩ (((fd.scope.names.take (n + dv.length)).map (·.1)).zip (vals ++ dr))
noncomputable def mFn (n size : Nat) (dv : List V) (g : SM) : List V → OM V := fun l H => if l.length = n then (match g ((l ++ dv).map some ++ List.replicate (size - (n + dv.length)) none) H with
 | some ((.ret v, _), H') => some (v, H')
 | some ((.next, _), H') => some (.none, H')
 | _ => none) else none
theorem oI (ko : Str → Option NameKind) : ∀ (binds : List (Str × Value)) (m : Str → Option Value), (binds.map (·.1)).Nodup → ∀ x v, ko x = some .local →
  ((x, v) ∈ binds → bindL ko binds m x = some v) ∧ (x ∉ binds.map (·.1) → bindL ko binds m x = m x)
 | [], m, _, x, v, hk => ⟨fun h => (by cases h), fun ξ => rfl⟩
 | (n, u) :: r, m, hn, x, v, hk => by
  simp only [List.map_cons, List.nodup_cons] at hn
  obtain ⟨ih1, ih2⟩ := oI ko r (if ko n = some .local then fun y => if y = n then some u else m y else m) hn.2 x v hk
  unfold bindL
  refine ⟨fun h => ?_, fun h => ?_⟩
  ·rcases List.mem_cons.mp h with e | h
   ·cases e
    rw [ih2 hn.1, if_pos hk, if_pos rfl]
   ·exact ih1 h
  ·simp only [List.map_cons, List.mem_cons, not_or] at h
   rw [ih2 h.2]
   split
   ·exact if_neg h.1
   ·rfl
theorem oJ (ko : Str → Option NameKind) : ∀ (binds : List (Str × Value)) (m : Str → Option Value), (binds.map (·.1)).Nodup → ∀ x v, ko x ≠ some .local →
  ((x, v) ∈ binds → bindC ko binds m x = some v) ∧ (x ∉ binds.map (·.1) → bindC ko binds m x = m x)
 | [], m, _, x, v, hk => ⟨fun h => (by cases h), fun ξ => rfl⟩
 | (n, u) :: r, m, hn, x, v, hk => by
  simp only [List.map_cons, List.nodup_cons] at hn
  obtain ⟨ih1, ih2⟩ := oJ ko r (if ko n = some .local then m else fun y => if y = n then some u else m y) hn.2 x v hk
  unfold bindC
  refine ⟨fun h => ?_, fun h => ?_⟩
  ·rcases List.mem_cons.mp h with e | h
   ·cases e
    rw [ih2 hn.1, if_neg hk, if_pos rfl]
   ·exact ih1 h
  ·simp only [List.map_cons, List.mem_cons, not_or] at h
   rw [ih2 h.2]
   split
   ·rfl
   ·exact if_neg h.1
theorem il : ∀ (names : List (Str × NameKind)) (n : Nat) (acc : List (Str × Addr)) (x : Str), (x, NameKind.cell) ∈ names → ((cellsFrom n names acc).lookup x).isSome = true := by
 have up : ∀ (names : List (Str × NameKind)) (n : Nat) (acc : List (Str × Addr)) (x : Str), (acc.lookup x).isSome = true → ((cellsFrom n names acc).lookup x).isSome = true := by
  intro names
  induction names with
  | nil => intro n acc x h; exact h
  | cons y r ih =>
   intro n acc x h
   obtain ⟨m, k⟩ := y
   unfold cellsFrom
   split
   ·refine ih _ _ x ?_
    rw [List.lookup_cons]
    split
    ·rfl
    ·exact h
   ·exact ih _ _ x h
 intro names
 induction names with
 | nil => intro n acc x h; cases h
 | cons y r ih =>
  intro n acc x h
  obtain ⟨m, k⟩ := y
  unfold cellsFrom
  rcases List.mem_cons.mp h with e | h
  ·cases e
   simp only [beq_self_eq_true, if_true]
   exact up r _ _ x (by rw [List.lookup_cons, beq_self_eq_true]; rfl)
  ·split
   ·exact ih _ _ x h
   ·exact ih _ _ x h
theorem gw : ∀ (names : List (Str × NameKind)) (n : Nat) (acc : List (Str × Addr)) (x : Str) (c : Addr), (x, c) ∈ cellsFrom n names acc → (x, c) ∈ acc ∨ (x, NameKind.cell) ∈ names
 | [], _, _, _, _, h => .inl h
 | (m, k) :: r, n, acc, x, c, h => by
  unfold cellsFrom at h
  split at h
  ·rename_i hk
   obtain rfl : k = .cell := by simpa using hk
   rcases gw r _ _ x c h with q | q
   ·rcases List.mem_cons.mp q with q | q
    ·cases q; exact .inr (.head _)
    ·exact .inl q
   ·exact .inr (.tail _ q)
  ·rcases gw r _ _ x c h with q | q
   ·exact .inl q
   ·exact .inr (.tail _ q)
inductive FnI (n size : Nat) (dv : List V) (g : SM) (l : List V) (H : MH) (v : V) (H' : MH) : Prop
 | ret (hn : l.length = n) (loc' : Loc) (eg : g ((l ++ dv).map some ++ List.replicate (size - (n + dv.length)) none) H = some ((.ret v, loc'), H')) : FnI n size dv g l H v H'
 | next (hn : l.length = n) (loc' : Loc) (eg : g ((l ++ dv).map some ++ List.replicate (size - (n + dv.length)) none) H = some ((.next, loc'), H')) (hv : v = .none) : FnI n size dv g l H v H'
theorem FnI.len {n size : Nat} {dv : List V} {g : SM} {l : List V} {H : MH} {v : V} {H' : MH} (x : FnI n size dv g l H v H') : l.length = n := by cases x <;> assumption
theorem mFn_inv {n size : Nat} {dv : List V} {g : SM} {l : List V} {H : MH} {v : V} {H' : MH} (e : mFn n size dv g l H = some (v, H')) : FnI n size dv g l H v H' := by
 unfold mFn at e
 by_cases hn : l.length = n
 ·rw [if_pos hn] at e
  cases eg : g ((l ++ dv).map some ++ List.replicate (size - (n + dv.length)) none) H with
  | none => rw [eg] at e; exact nul e
  | some q =>
   obtain ⟨⟨x, loc'⟩, H₁⟩ := q
   rw [eg] at e
   cases x with
   | ret u => cases e; exact .ret hn loc' eg
   | next => cases e; exact .next hn loc' eg rfl
   | _ => exact nul e
 ·rw [if_neg hn] at e; exact nul e
section
variable {C : Cx} {k : Nat}
noncomputable def OpC (C : Cx) (k : Nat) (f : Addr) (m : List V → OM V) : Prop :=
 ∀ ⦃A : Around⦄ ⦃s : Shared⦄ ⦃ρ : List Addr⦄ ⦃H : MH⦄ ⦃l : List V⦄ ⦃vs : List Value⦄ ⦃v : V⦄ ⦃H' : MH⦄ ⦃T : Result → Shared → Prop⦄, C.Ok → Room A k → Rep C ρ H s.heap → RelL ρ s.heap l vs →
  m l H = some (v, H') → KR C ρ H H' s Rel v (fun rv => T (.ok (.ret rv))) → codeAny C.M A (.call (.ref f) ⟨vs, []⟩) T s
theorem OpC.op {f : Addr} {m : List V → OM V} (x : OpC C k f m) : OpL C k (fun vs => call (.ref f) vs) m := fun A s ρ H l vs v H' Q E o rm R r e hQ => wpAny_call (x o rm R r e hQ)
theorem OpC.le {f : Addr} {m : List V → OM V} {j : Nat} (x : OpC C j f m) (h : j ≤ k) : OpC C k f m := fun ξ ξ ξ ξ ξ ξ ξ ξ ξ o r => x o (r.le h)
theorem fn_op {f : Addr} {fd : FuncData} {body : List Stmt} {n : Nat} {dv : List V} {dr : List Value} {g : SM} {size : Nat} (W : FnIs C f fd body n dv dr) (hz : fd.scope.names.length = size) (hg : fq C k fd.scope body g) : OpC C (k + 1) f (mFn n size dv g) :=
 fun A s ρ H l vs v H' T o rm R r e hQ => by
  subst hz
  have e := mFn_inv e
  have hn := e.len
  ·obtain ⟨oc, od, sl, hat⟩ := W.at_
   have X := R.K o
   have ho := X _ _ hat
   have hvn : vs.length = n := by rw [r.length, hn]
   have rall : RelL ρ s.heap (l ++ dv) (vs ++ dr) := r.append (W.dflt _ _)
   have hlim : ∀ h : Heap, (∀ b o, s.heap.get? b = some o → h.get? b = some o) → h.NoLimit := fun h hk => (o.T.nolimit.keeps R.keep).keeps hk
   have hdl : dr.length = dv.length := (W.dflt ρ s.heap).length
   have hbl : (((fd.scope.names.take (n + dv.length)).map (·.1)).zip (vs ++ dr)).map (·.1) = (fd.scope.names.take (n + dv.length)).map (·.1) := by
    rw [List.map_fst_zip]
    simp only [List.length_map, List.length_take, List.length_append, hvn, hdl]
    omega
   have hnd : ((((fd.scope.names.take (n + dv.length)).map (·.1)).zip (vs ++ dr)).map (·.1)).Nodup := by
    rw [hbl, List.map_take]
    exact W.nodup.sublist (List.take_sublist _ _)
   have hpar : ∀ (i : Nat) (x : Str) (kd : NameKind), i < n + dv.length → fd.scope.names[i]? = some (x, kd) → kd = .local ∨ kd = .cell := fun i x kd hi e => by
    have := W.par
    rw [List.all_eq_true] at this
    have := this (x, kd) (List.mem_of_getElem? (i := i) (by rw [List.getElem?_take]; simp [hi, e]))
    simpa using this
   have hzip : ∀ (x : Str) (u : Value), (x, u) ∈ ((fd.scope.names.take (n + dv.length)).map (·.1)).zip (vs ++ dr) → ∃ (i : Nat) (kd : NameKind), i < n + dv.length ∧ fd.scope.names[i]? = some (x, kd) ∧ (vs ++ dr)[i]? = some u := fun x u hx => by
    obtain ⟨i, hi⟩ := List.mem_iff_getElem?.mp hx
    rw [List.getElem?_zip_eq_some] at hi
    obtain ⟨h1, h2⟩ := hi
    rw [List.getElem?_map, Option.map_eq_some_iff] at h1
    obtain ⟨⟨y, kd⟩, h3, rfl⟩ := h1
    rw [List.getElem?_take] at h3
    split at h3
    ·rename_i hlt; exact ⟨i, kd, hlt, h3, h2⟩
    ·cases h3
   have hback : ∀ (i : Nat) (x : Str) (kd : NameKind) (u : Value), i < n + dv.length → fd.scope.names[i]? = some (x, kd) → (vs ++ dr)[i]? = some u → (x, u) ∈ ((fd.scope.names.take (n + dv.length)).map (·.1)).zip (vs ++ dr) := fun i x kd u hi e1 e2 => by
    refine List.mem_of_getElem? (i := i) ?_
    rw [List.getElem?_zip_eq_some]
    refine ⟨?_, e2⟩
    rw [List.getElem?_map, List.getElem?_take]
    simp [hi, e1]
   refine codeAny_call_function rm.lim ho rfl W.co W.gen W.body (codeRec_of X W.code) (W.bind s vs X hvn _ _ _ _ ?_)
   rw [W.clos]
   refine dd (wpAny_newFunctionEnv_cells W.kind (fun x hx => ?_) fun env he s' x hle => ?_)
   ·obtain ⟨x, u⟩ := x
    obtain ⟨i, kd, hi, e1, ξ⟩ := hzip x u hx
    have hlk := da W.nodup e1
    rcases hpar i x kd hi e1 with rfl | rfl
    ·exact .inl hlk
    ·exact .inr ⟨hlk, il _ _ _ x (List.mem_of_getElem? e1)⟩
   ·subst he
    obtain ⟨h₁, tk₁, rfl⟩ := x.toInCall.same
    generalize henv : newEnv fd.scope s.heap.objs.size fd.globals (cellsFrom (s.heap.objs.size + 1) fd.scope.names []) (fd.qualname ++ ".<locals>.") (some f) fd.code none fd.builtins = env at x
    have c1 : env.scope = fd.scope := by rw [← henv]; rfl
    have c2 : env.locals = s.heap.objs.size := by rw [← henv]; rfl
    have c3 : env.globals = mainGlobals := by rw [← henv]; exact W.glob
    have c4 : env.builtins = builtinsNs := by rw [← henv]; exact W.blt
    have c5 : env.cells = cellsFrom (s.heap.objs.size + 1) fd.scope.names [] := by rw [← henv]; rfl
    have kp : ∀ b o, s.heap.get? b = some o → h₁.get? b = some o := x.toInCall.keep
    have P₁ : Post C ρ H H no s.heap h₁ ρ := Post.keeps R kp hle
    have hko : ∀ {i : Nat} {y : Str} {kd : NameKind}, fd.scope.names[i]? = some (y, kd) → env.kindOf y = some kd := fun e => by
     unfold Env.kindOf
     rw [c1]
     exact da W.nodup e
    have hget : ∀ {i : Nat} {v : V}, ((l ++ dv).map some ++ List.replicate (fd.scope.names.length - (n + dv.length)) none)[i]? = some (some v) → i < n + dv.length ∧ (l ++ dv)[i]? = some v := fun {i v} e => by
     by_cases hi : i < n + dv.length
     ·refine ⟨hi, ?_⟩
      rw [List.getElem?_append_left (by simp [hn]; exact hi), List.getElem?_map, Option.map_eq_some_iff] at e
      obtain ⟨w, hw, e⟩ := e
      cases e; exact hw
     ·rw [List.getElem?_append_right (by simp [hn]; omega)] at e
      have := List.mem_of_getElem? e
      rw [List.mem_replicate] at this
      cases this.2
    have F₁ : Fr0 C ρ h₁ env ((l ++ dv).map some ++ List.replicate (fd.scope.names.length - (n + dv.length)) none) := by
     refine ⟨⟨by rw [c1]; exact W.kind, c3, c4, by rw [c1]; exact W.nodup, ?_, ⟨_, x.toInCall.ns, fun i y v hi hv => ?_⟩, fun i y kd hi hk => ?_, ?_, fun y c hc => ?_, x.apart⟩, fun y c hc => ⟨_, x.cell y c hc⟩⟩
     ·rw [c1]
      have := W.size
      simp only [List.length_append, List.length_map, List.length_replicate, hn]
      omega
     ·rw [c1] at hi
      obtain ⟨hlt, hv⟩ := hget hv
      obtain ⟨rv, h1, h2⟩ := rall.get hv
      exact ⟨rv, (oI env.kindOf _ _ hnd y rv (hko hi)).1 (hback i y _ rv hlt hi h1), h2.post P₁⟩
     ·rw [c1] at hi
      have hc : kd = .cell := by
       rcases hk with hk | hk
       ·exact hk
       ·subst hk
        have := W.nofree
        rw [List.all_eq_true] at this
        exact absurd (this _ (List.mem_of_getElem? hi)) (by simp)
      subst hc
      obtain ⟨c, hc⟩ := Option.isSome_iff_exists.mp (il fd.scope.names (s.heap.objs.size + 1) [] y (List.mem_of_getElem? hi))
      rw [← c5] at hc
      refine ⟨c, _, hc, x.cell y c hc, fun v hv => ?_⟩
      obtain ⟨hlt, hv⟩ := hget hv
      obtain ⟨rv, h1, h2⟩ := rall.get hv
      exact ⟨rv, (oJ env.kindOf _ _ hnd y rv (by rw [hko hi]; decide)).1 (hback i y _ rv hlt hi h1), h2.post P₁⟩
     ·rw [c2]
      exact ⟨fun q => Nat.lt_irrefl _ (R.lt q), R.size⟩
     ·have hm := x.above y c (mem_of_lookup hc)
      rw [c2] at hm ⊢
      exact ⟨fun q => absurd (R.lt q) (Nat.not_lt.mpr (Nat.le_of_lt hm)), Nat.ne_of_gt hm, Nat.le_of_lt (Nat.lt_of_le_of_lt R.size hm)⟩
    refine ⟨hlim _ kp, codeAny_func ?_⟩
    have ow : ∀ b, own env b → no b ∨ s.heap.objs.size ≤ b := fun b q => by
     rcases q with q | ⟨y, _, q⟩
     ·rw [q, c2]; exact .inr (Nat.le_refl _)
     ·have hm := x.above y b (mem_of_lookup q)
      rw [c2] at hm
      exact .inr (Nat.le_of_lt hm)
    cases e with
    | ret hn loc' eg =>
     refine hg o rm.deeper c1 P₁.rep F₁ eg fun ρ₂ h₂ tk₂ rx P₂ F₂ r₂ => ?_
     obtain ⟨rv, rfl, r₂⟩ := r₂
     exact hQ ρ₂ h₂ tk₂ rv (P₁.trans P₂ ow) r₂
    | next hn loc' eg hv =>
     subst hv
     refine hg o rm.deeper c1 P₁.rep F₁ eg fun ρ₂ h₂ tk₂ rx P₂ F₂ r₂ => ?_
     cases r₂
     exact hQ ρ₂ h₂ tk₂ .none (P₁.trans P₂ ow) rfl
end
noncomputable def gu (K : Addr) (mi : List V → OM V) : List V → OM V := fun l H => match mi (.ref (H.length + 1) :: l) (H ++ [.ns [], .inst K H.length]) with
 | some (.none, H') => some (.ref (H.length + 1), H')
 | _ => none
theorem rh {K : Addr} {mi : List V → OM V} {l : List V} {H H' : MH} {v : V} (e : gu K mi l H = some (v, H')) : mi (.ref (H.length + 1) :: l) (H ++ [.ns [], .inst K H.length]) = some (.none, H') ∧ v = .ref (H.length + 1) := by
 unfold gu at e
 cases em : mi (.ref (H.length + 1) :: l) (H ++ [.ns [], .inst K H.length]) with
 | none => rw [em] at e; exact nul e
 | some q =>
  obtain ⟨u, H₁⟩ := q
  rw [em] at e
  cases u with
  | none => cases e; exact ⟨rfl, rfl⟩
  | _ => exact nul e
section
variable {C : Cx} {k : Nat} {ρ : List Addr} {H : MH} {h : Heap}
theorem Room.made {A : Around} {K : Addr} {rest : List Value} {kw : List (Str × Value)} (r : Room A (k + 1)) : Room (A.under (.builtin "type.__call__" ⟨.ref K :: rest, kw⟩)) k :=
 ⟨r.hd, by show A.depth + 1 + k < _; rw [Nat.add_right_comm]; exact r.depth, Nat.lt_of_le_of_lt (u8 (a := A.units) (n := 1) (by decide)) r.units⟩
theorem new_inst {ex : Addr → Prop} (R : Rep C ρ H h) (K : Addr) : Post C ρ H (H ++ [.ns [], .inst K H.length]) ex h ((h.push emptyDict).push (instObj K h.objs.size)) (ρ ++ [h.objs.size] ++ [h.objs.size + 1]) := by
 have P₁ : Post C ρ H (H ++ [.ns []]) ex h (h.push emptyDict) (ρ ++ [h.objs.size]) := gZ (o := emptyDict) R (fun b o e => Heap.get?_push_of_some _ e) (Heap.get?_push_size _ rfl) ⟨[], 0, Heap.get?_push_size _ rfl, .nil⟩
 have hs : (h.push emptyDict).objs.size = h.objs.size + 1 := Heap.size_push ..
 have P₂ : Post C (ρ ++ [h.objs.size]) (H ++ [.ns []]) ((H ++ [.ns []]) ++ [.inst K H.length]) ex (h.push emptyDict) ((h.push emptyDict).push (instObj K h.objs.size)) ((ρ ++ [h.objs.size]) ++ [(h.push emptyDict).objs.size]) :=
  gZ (o := instObj K h.objs.size) P₁.rep (fun b o e => Heap.get?_push_of_some _ e) (Heap.get?_push_size _ rfl) ⟨h.objs.size, Heap.get?_push_size _ rfl, bu (d7 R)⟩
 rw [hs] at P₂
 have := P₁.trans0 P₂
 simpa using this
theorem jU {K f : Addr} {mi : List V → OM V} (hm : makesIn C.K K = true) (hi : findIn C.K (.ref K) "__init__" = some (some (.ref f))) (hf : typeIn C.K (.ref f) = some (.type "function"))
  (hop : OpC C k f mi) : OpL C (k + 1) (fun vs => call (.ref K) vs) (gu K mi) := fun A s ρ H l vs v H' Q E o rm R r e hQ => by
 obtain ⟨em, rfl⟩ := rh e
 ·have X := R.K o
  obtain ⟨hh, g, d, t, os⟩ := s
  have P := new_inst (ex := no) R K
  refine wpAny_call (make_core (makes_of X hm) (looks_findIn X hi) (fun self => bind_fn X self hf) (.inl rfl) ?_)
  have hr : (ρ ++ [hh.objs.size] ++ [hh.objs.size + 1])[H.length + 1]? = some (hh.objs.size + 1) := by
   rw [← R.len]
   rw [List.getElem?_append_right (by simp)]
   simp
  refine hop (s := ⟨(hh.push emptyDict).push (instObj K hh.objs.size), g, d, t, os⟩) o rm.made P.rep (.cons (.ref hr) (r.post P)) em fun ρ' h' tk rv P' r' => ?_
  cases r'.none_
  refine ⟨rfl, hQ ρ' h' tk _ (P.transN P') (.ref ?_)⟩
  obtain ⟨w, rfl, ξ⟩ := P'.ext
  exact dk hr
end
noncomputable def plt : Prim → Prim → Bool
 | .int i, .int j => decide (i < j)
 | .str x, .str y => decide (x.cps.toList < y.cps.toList)
 | .int _, .str _ => true
 | .str _, .int _ => false
noncomputable def tlt : List Prim → List Prim → Bool
 | [], [] => false
 | [], _ :: _ => true
 | _ :: _, [] => false
 | a :: r, b :: s => if a = b then tlt r s else plt a b
noncomputable def klt : Key → Key → Bool
 | .p a, .p b => plt a b
 | .t a, .t b => tlt a b
 | .p _, .t _ => true
 | .t _, .p _ => false
noncomputable def insK (k : Key) : List Key → List Key
 | [] => [k]
 | a :: r => if klt k a then k :: a :: r else a :: insK k r
noncomputable def bG : List Key → List Key
 | [] => []
 | a :: r => insK a (bG r)
theorem fZ {k a : Key} {r : List Key} : insK k (a :: r) = if klt k a then k :: a :: r else a :: insK k r := rfl
theorem ga {a : Key} {r : List Key} : bG (a :: r) = insK a (bG r) := rfl
noncomputable def pcmp : Prim → Prim → Bool
 | .int _, .int _ => true
 | .str _, .str _ => true
 | _, _ => false
noncomputable def tcmp : List Prim → List Prim → Bool
 | [], _ => true
 | _, [] => true
 | a :: r, b :: s => if a = b then tcmp r s else pcmp a b
noncomputable def kcmp : Key → Key → Bool
 | .p a, .p b => pcmp a b
 | .t (a :: r), .t (b :: s) => pcmp a b && tcmp (a :: r) (b :: s)
 | _, _ => false
noncomputable def sOk (l : List Key) : Bool := decide (l.length < 64) && decide l.Nodup && l.all fun a => l.all fun b => kcmp a b
noncomputable def jA (ks : List Key) : OM V := fun H => if sOk ks then some (.ref H.length, H ++ [.list ((bG ks).map .ofKey)]) else none
noncomputable def aV : List V → OM V
 | [.ref l] => fun H => match H[l]? with
  | some (.list xs) => (match bz xs with
   | some ks => jA ks H
   | none => none)
  | some (.dict es _) => jA (es.map (·.1)) H
  | _ => none
 | _ => cZ
noncomputable def e8 : List (Key × V) → List V → Option (List (Key × V))
 | es, [] => some es
 | es, .tup [k, v] :: r => k.prim?.bind fun p => e8 (dput es (.p p) v) r
 | _, _ => none
noncomputable def gn : List V → OM V
 | [.ref l] => fun H => match H[l]? with
  | some (.list xs) => if xs.length ≤ 1000 then (match e8 [] xs with
   | some es => some (.ref H.length, H ++ [.dict es 0])
   | none => none) else none
  | _ => none
 | _ => cZ
noncomputable def oj (a : V) : OM Src := fun H => match a with
 | .ref l => match H[l]? with
  | some (.dict es n) => if allP es then some (.vals l es n, H) else none
  | _ => none
 | _ => none
noncomputable def Gd (n : Nat) (p : Array Nat) : Prop := p.toList.Perm (List.range n)
theorem Gd.size {n : Nat} {p : Array Nat} (g : Gd n p) : p.size = n := by
 have := g.length_eq
 simpa using this
theorem Gd.lt {n : Nat} {p : Array Nat} (g : Gd n p) {i : Nat} (h : i < n) : p.getD i 0 < n := by
 have hi : i < p.size := by rw [g.size]; exact h
 have e : p.getD i 0 = p[i] := by simp [Array.getD, hi]
 rw [e]
 exact List.mem_range.mp (g.mem_iff.mp (by simp))
theorem Gd.inj {n : Nat} {p : Array Nat} (g : Gd n p) {i j : Nat} (hi : i < n) (hj : j < n) (e : p.getD i 0 = p.getD j 0) : i = j := by
 have hi' : i < p.size := by rw [g.size]; exact hi
 have hj' : j < p.size := by rw [g.size]; exact hj
 have e1 : p.getD i 0 = p[i] := by simp [Array.getD, hi']
 have e2 : p.getD j 0 = p[j] := by simp [Array.getD, hj']
 rw [e1, e2] at e
 have nd : p.toList.Nodup := g.nodup_iff.mpr List.nodup_range
 have pw := List.pairwise_iff_getElem.mp nd
 rcases Nat.lt_trichotomy i j with h | h | h
 ·exact absurd e (pw i j (by simpa using hi') (by simpa using hj') h)
 ·exact h
 ·exact absurd e.symm (pw j i (by simpa using hj') (by simpa using hi') h)
theorem gd_range (n : Nat) : Gd n (List.toArray (List.range n)) := List.Perm.refl _
theorem Gd.perm {n : Nat} {p q : Array Nat} (g : Gd n p) (h : q.Perm p) : Gd n q := (Array.perm_iff_toList_perm.mp h).trans g
section
variable {n : Nat} {r : Nat → Nat} {cmp : Nat → Nat → (Bool → Shared → Prop) → Shared → Prop} {s : Shared}
noncomputable def Rp (r : Nat → Nat) (p : Array Nat) (k : Nat) : Nat := r (p.getD k 0)
noncomputable def Asc (r : Nat → Nat) (p : Array Nat) (k : Nat) : Prop := ∀ i j, i < j → j < k → Rp r p i < Rp r p j
noncomputable def Dsc (r : Nat → Nat) (p : Array Nat) (k : Nat) : Prop := ∀ i j, i < j → j < k → Rp r p j < Rp r p i
noncomputable def Cm (n : Nat) (r : Nat → Nat) (cmp : Nat → Nat → (Bool → Shared → Prop) → Shared → Prop) (s : Shared) : Prop := ∀ i j, i < n → j < n → ∀ C : Bool → Shared → Prop, C (decide (r i < r j)) s → cmp i j C s
noncomputable def Inj (n : Nat) (r : Nat → Nat) : Prop := ∀ i j, i < n → j < n → r i = r j → i = j
theorem Gd.rinj {p : Array Nat} (g : Gd n p) (hr : Inj n r) {i j : Nat} (hi : i < n) (hj : j < n) (e : Rp r p i = Rp r p j) : i = j := g.inj hi hj (hr _ _ (g.lt hi) (g.lt hj) e)
theorem Asc.next {p : Array Nat} {m : Nat} (a : Asc r p m) (hm : 1 ≤ m) (h : Rp r p (m - 1) < Rp r p m) : Asc r p (m + 1) := fun i j hij hj => by
 rcases Nat.lt_or_eq_of_le (Nat.le_of_lt_succ hj) with hq | rfl
 ·exact a i j hij hq
 ·rcases Nat.lt_or_eq_of_le (Nat.le_sub_one_of_lt hij) with hi | rfl
  ·exact Nat.lt_trans (a i (j - 1) hi (Nat.sub_lt hm Nat.one_pos)) h
  ·exact h
theorem Dsc.next {p : Array Nat} {m : Nat} (a : Dsc r p m) (hm : 1 ≤ m) (h : Rp r p m < Rp r p (m - 1)) : Dsc r p (m + 1) := fun i j hij hj => by
 rcases Nat.lt_or_eq_of_le (Nat.le_of_lt_succ hj) with hq | rfl
 ·exact a i j hij hq
 ·rcases Nat.lt_or_eq_of_le (Nat.le_sub_one_of_lt hij) with hi | rfl
  ·exact Nat.lt_trans h (a i (j - 1) hi (Nat.sub_lt hm Nat.one_pos))
  ·exact h
theorem ji {p q : Array Nat} {i j : Nat} (h : p[i]? = q[j]?) : Rp r p i = Rp r q j := by
 unfold Rp
 have : p.getD i 0 = q.getD j 0 := by
  rw [Array.getD_eq_getD_getElem?, Array.getD_eq_getD_getElem?, h]
 rw [this]
theorem me (hr : Inj n r) {p : Array Nat} (g : Gd n p) {i j : Nat} (hi : i < n) (hj : j < n) (ne : i ≠ j) (h : ¬ Rp r p j < Rp r p i) : Rp r p i < Rp r p j := Nat.lt_of_le_of_ne (Nat.le_of_not_lt h) fun e => ne (g.rinj hr hi hj e)
theorem wp_asc (c : Cm n r cmp s) {p : Array Nat} (g : Gd n p) (hr : Inj n r) : ∀ (f m : Nat) {G : Nat → Shared → Prop}, 1 ≤ m → m + f = n → Asc r p m → (∀ m', m ≤ m' → m' ≤ n → Asc r p m' → (m' < n → Rp r p m' < Rp r p (m' - 1)) → G m' s) → (kas_asc p f m).kasWp cmp G s := by
 intro f; induction f with
 | zero => intro m G h1 h2 a k; exact k m (Nat.le_refl _) (Nat.le_of_eq h2) a fun h => absurd h2 (Nat.ne_of_lt h)
 | succ f ih =>
  intro m G h1 h2 a k
  have hm : m < n := h2 ▸ Nat.lt_add_of_pos_right (Nat.succ_pos f)
  have hm1 : m - 1 < n := Nat.lt_of_le_of_lt (Nat.sub_le m 1) hm
  refine c _ _ (g.lt hm) (g.lt hm1) _ ?_
  by_cases h : Rp r p m < Rp r p (m - 1)
  ·rw [decide_eq_true (show r (p.getD m 0) < r (p.getD (m - 1) 0) from h)]
   exact k m (Nat.le_refl _) (Nat.le_of_lt hm) a fun ξ => h
  ·rw [decide_eq_false (show ¬ r (p.getD m 0) < r (p.getD (m - 1) 0) from h)]
   exact ih (m + 1) (Nat.le_succ_of_le h1) (by rw [← h2, Nat.add_assoc, Nat.add_comm 1 f]) (a.next h1 (me hr g hm1 hm (Nat.ne_of_lt (Nat.sub_lt h1 Nat.one_pos)) h)) fun m' q1 => k m' (Nat.le_of_succ_le q1)
theorem wp_desc (c : Cm n r cmp s) {p : Array Nat} (g : Gd n p) (hr : Inj n r) : ∀ (f m : Nat) {G : Array Nat × Nat × Nat → Shared → Prop}, 1 ≤ m → m + f = n → Dsc r p m → (∀ m', m ≤ m' → m' ≤ n → Dsc r p m' → G (p, m', 0) s) → (kas_desc f p m 0).kasWp cmp G s := by
 intro f; induction f with
 | zero => intro m G h1 h2 a k; exact k m (Nat.le_refl _) (Nat.le_of_eq h2) a
 | succ f ih =>
  intro m G h1 h2 a k
  have hm : m < n := h2 ▸ Nat.lt_add_of_pos_right (Nat.succ_pos f)
  have hm1 : m - 1 < n := Nat.lt_of_le_of_lt (Nat.sub_le m 1) hm
  refine c _ _ (g.lt hm) (g.lt hm1) _ ?_
  by_cases h : Rp r p m < Rp r p (m - 1)
  ·rw [decide_eq_true (show r (p.getD m 0) < r (p.getD (m - 1) 0) from h)]
   exact ih (m + 1) (Nat.le_succ_of_le h1) (by rw [← h2, Nat.add_assoc, Nat.add_comm 1 f]) (a.next h1 h) fun m' q1 => k m' (Nat.le_of_succ_le q1)
  ·rw [decide_eq_false (show ¬ r (p.getD m 0) < r (p.getD (m - 1) 0) from h)]
   refine c _ _ (g.lt hm1) (g.lt hm) _ ?_
   rw [decide_eq_true (show r (p.getD (m - 1) 0) < r (p.getD m 0) from me hr g hm1 hm (Nat.ne_of_lt (Nat.sub_lt h1 Nat.one_pos)) h)]
   exact k m (Nat.le_refl _) (Nat.le_of_lt hm) a
theorem rev_at {p : Array Nat} {m k : Nat} (hm : m ≤ p.size) (hk : k < m) : Rp r (kas_rev p 0 m) k = Rp r p (m - 1 - k) := ji (by
 unfold kas_rev
 rw [getElem?_mirror_all hm, if_pos ⟨Nat.zero_le _, hk⟩]
 congr 1; omega)
theorem rev_asc {p : Array Nat} {m : Nat} (hm : m ≤ p.size) (d : Dsc r p m) : Asc r (kas_rev p 0 m) m := fun i j hij hj => by
 rw [rev_at hm (Nat.lt_trans hij hj), rev_at hm hj]
 exact d _ _ (Nat.sub_lt_sub_left (Nat.lt_of_lt_of_le hij (Nat.le_sub_one_of_lt hj)) hij) (Nat.lt_of_le_of_lt (Nat.sub_le _ _) (Nat.sub_lt (Nat.lt_of_le_of_lt (Nat.zero_le _) hj) Nat.one_pos))
theorem wp_count (c : Cm n r cmp s) (hr : Inj n r) {p : Array Nat} (g : Gd n p) (h1 : 1 ≤ n) {G : Nat × Array Nat → Shared → Prop} (k : ∀ m p', 1 ≤ m → m ≤ n → Gd n p' → Asc r p' m → G (m, p') s) : (kas_count n p).kasWp cmp G s := by
 unfold kas_count
 rw [KasT.kasWp_bind]
 refine wp_asc c g hr (n - 1) 1 (Nat.le_refl _) (by omega) (fun i j hij hj => absurd (Nat.lt_of_lt_of_le hij (Nat.le_of_lt_succ hj)) (Nat.not_lt_zero _)) fun m q1 q2 q3 q4 => ?_
 by_cases e1 : (m == n) = true
 ·rw [if_pos e1]; exact k m p q1 q2 g q3
 ·rw [if_neg e1]
  have hlt : m < n := Nat.lt_of_le_of_ne q2 fun q => e1 (by rw [q]; exact beq_self_eq_true _)
  by_cases e2 : m > 1
  ·rw [if_pos e2]
   refine c _ _ (g.lt h1) (g.lt (Nat.lt_of_le_of_lt (Nat.sub_le m 1) hlt)) _ ?_
   rw [decide_eq_true (show r (p.getD 0 0) < r (p.getD (m - 1) 0) from q3 0 (m - 1) (Nat.sub_pos_of_lt e2) (Nat.sub_lt q1 Nat.one_pos))]
   exact k m p q1 q2 g q3
  ·rw [if_neg e2]
   obtain rfl : m = 1 := Nat.le_antisymm (Nat.le_of_not_lt e2) q1
   unfold kas_descPart
   rw [KasT.kasWp_bind]
   refine wp_desc c g hr (n - (1 + 1)) (1 + 1) (by omega) (by omega) (fun i j hij hj => ?_) fun m' q1' q2' q3' => ?_
   ·obtain rfl : i = 0 := by omega
    obtain rfl : j = 1 := by omega
    exact q4 hlt
   ·rw [if_neg (by simp)]
    unfold kas_tail3
    rw [KasT.kasWp_bind]
    have g' : Gd n (kas_rev p 0 m') := g.perm (mirror_perm _ _ _ _)
    refine wp_asc c g' hr (n - m') m' (by omega) (by omega) (rev_asc (by rw [g.size]; exact q2') q3') fun m'' z1 z2 z3 ξ => k m'' _ (Nat.le_trans (Nat.le_trans (Nat.le_succ 1) q1') z1) z2 g' z3
theorem wp_place (c : Cm n r cmp s) (hr : Inj n r) {p : Array Nat} (g : Gd n p) {k : Nat} (hk : k < n) : ∀ (f l u : Nat) {G : Nat → Shared → Prop}, l ≤ u → u ≤ k → u - l ≤ f → (∀ i, i < l → Rp r p i < Rp r p k) → (∀ i, u ≤ i → i < k → Rp r p k < Rp r p i) → Asc r p k →
  (∀ l', l' ≤ k → (∀ i, i < l' → Rp r p i < Rp r p k) → (∀ i, l' ≤ i → i < k → Rp r p k < Rp r p i) → G l' s) → (kas_place p k f l u).kasWp cmp G s := by
 intro f; induction f with
 | zero => intro l u G h1 h2 h3 a b so q; exact q l (Nat.le_trans h1 h2) a fun i hi hk => b i (Nat.le_trans (Nat.le_of_sub_eq_zero (Nat.le_zero.mp h3)) hi) hk
 | succ f ih =>
  intro l u G h1 h2 h3 a b so q
  unfold kas_place
  by_cases e : l ≥ u
  ·rw [if_pos e]
   exact q l (Nat.le_trans h1 h2) a fun i hi hk => b i (Nat.le_trans e hi) hk
  ·rw [if_neg e]
   have m1 : l ≤ (l + u) / 2 := by omega
   have m2 : (l + u) / 2 < u := by omega
   generalize (l + u) / 2 = m at m1 m2 ⊢
   have mk : m < k := Nat.lt_of_lt_of_le m2 h2
   refine c _ _ (g.lt hk) (g.lt (Nat.lt_trans mk hk)) _ ?_
   by_cases h : Rp r p k < Rp r p m
   ·rw [decide_eq_true (show r (p.getD k 0) < r (p.getD m 0) from h)]
    refine ih l m m1 (Nat.le_of_lt mk) (by omega) a (fun i hi hik => ?_) so q
    rcases Nat.lt_or_eq_of_le hi with hq | rfl
    ·exact Nat.lt_trans h (so _ i hq hik)
    ·exact h
   ·rw [decide_eq_false (show ¬ r (p.getD k 0) < r (p.getD m 0) from h)]
    have h' : Rp r p m < Rp r p k := Nat.lt_of_le_of_ne (Nat.le_of_not_lt h) fun e => Nat.ne_of_lt mk (g.rinj hr (Nat.lt_trans mk hk) hk e)
    refine ih (m + 1) u m2 h2 (by omega) (fun i hi => ?_) b so q
    rcases Nat.lt_or_eq_of_le (Nat.le_of_lt_succ hi) with hq | rfl
    ·exact Nat.lt_trans (so i m hq mk) h'
    ·exact h'
theorem pV {p : Array Nat} {k l : Nat} (hk : k < p.size) (hl : l ≤ k) (so : Asc r p k) (a : ∀ i, i < l → Rp r p i < Rp r p k) (b : ∀ i, l ≤ i → i < k → Rp r p k < Rp r p i) : Asc r (bubble p k (k - l)) (k + 1) := by
 have e := getElem?_bubble hk (k - l) (Nat.sub_le _ _)
 rw [Nat.sub_sub_self hl] at e
 have e1 : ∀ j, j < l → Rp r (bubble p k (k - l)) j = Rp r p j := fun j h => ji (by rw [e j, if_neg (Nat.ne_of_lt h), if_neg fun q => Nat.lt_asymm h q.1])
 have e2 : Rp r (bubble p k (k - l)) l = Rp r p k := ji (by rw [e l, if_pos rfl])
 have e3 : ∀ j, l ≤ j → j < k → Rp r (bubble p k (k - l)) (j + 1) = Rp r p j := fun j h h' => ji (by rw [e (j + 1), if_neg (Nat.ne_of_gt (Nat.lt_succ_of_le h)), if_pos ⟨Nat.lt_succ_of_le h, h'⟩]; rfl)
 generalize bubble p k (k - l) = B at e1 e2 e3 ⊢
 intro i j hij hj
 have hj' := Nat.le_of_lt_succ hj
 rcases Nat.lt_trichotomy i l with hi | rfl | hi
 ·rw [e1 i hi]
  rcases Nat.lt_trichotomy j l with h | rfl | h
  ·rw [e1 j h]; exact so i j hij (Nat.lt_of_lt_of_le h hl)
  ·rw [e2]; exact a i hi
  ·cases j with
   | zero => exact absurd h (Nat.not_lt_zero _)
   | succ j => rw [e3 j (Nat.le_of_lt_succ h) hj']; exact so i j (Nat.lt_of_lt_of_le hi (Nat.le_of_lt_succ h)) hj'
 ·cases j with
  | zero => exact absurd hij (Nat.not_lt_zero _)
  | succ j => rw [e2, e3 j (Nat.le_of_lt_succ hij) hj']; exact b j (Nat.le_of_lt_succ hij) hj'
 ·cases i with
  | zero => exact absurd hi (Nat.not_lt_zero _)
  | succ i =>
   cases j with
   | zero => exact absurd hij (Nat.not_lt_zero _)
   | succ j =>
    have hi' := Nat.le_of_lt_succ hi
    have h' := Nat.lt_of_succ_lt_succ hij
    rw [e3 i hi' (Nat.lt_trans h' hj'), e3 j (Nat.le_trans hi' (Nat.le_of_lt h')) hj']
    exact so i j h' hj'
theorem wp_bin (c : Cm n r cmp s) (hr : Inj n r) : ∀ (f : Nat) (p : Array Nat) (k : Nat) {G : Array Nat → Shared → Prop}, Gd n p → k + f = n → Asc r p k → (∀ p', Gd n p' → Asc r p' n → G p' s) → (kas_bin f p k).kasWp cmp G s := by
 intro f; induction f with
 | zero => intro p k G g h a q; exact q p g (by rw [← h]; exact a)
 | succ f ih =>
  intro p k G g h a q
  have hk : k < n := h ▸ Nat.lt_add_of_pos_right (Nat.succ_pos f)
  show ((kas_place p k k 0 k).bind fun l => kas_bin f (bubble p k (k - l)) (k + 1)).kasWp cmp G s
  rw [KasT.kasWp_bind]
  refine wp_place c hr g hk k 0 k (Nat.zero_le _) (Nat.le_refl _) (Nat.le_refl _) (fun i hi => absurd hi (Nat.not_lt_zero _)) (fun i hi hk => absurd hk (Nat.not_lt.mpr hi)) a fun l hl x y => ?_
  exact ih _ (k + 1) (g.perm (bubble_perm _ _ _)) (by rw [← h, Nat.add_assoc, Nat.add_comm 1 f]) (pV (by rw [g.size]; exact hk) hl a x y) q
theorem wp_sort (c : Cm n r cmp s) (hr : Inj n r) (h1 : 1 ≤ n) {G : Array Nat → Shared → Prop} (q : ∀ p', Gd n p' → Asc r p' n → G p' s) : (kas_sort n).kasWp cmp G s := by
 unfold kas_sort
 rw [KasT.kasWp_bind]
 refine wp_count c hr (gd_range n) h1 fun m p h1 h2 g a => ?_
 dsimp only
 by_cases h : m < n
 ·rw [if_pos h]
  exact wp_bin c hr _ _ _ g (by omega) (by rw [Nat.max_eq_left h1]; exact a) q
 ·rw [if_neg h]
  obtain rfl : m = n := Nat.le_antisymm h2 (Nat.le_of_not_lt h)
  exact q p g a
end
theorem str_eq {x y : Str} (h : x.cps.toList = y.cps.toList) : x = y := by
 cases x; cases y
 simp only [Str.mk.injEq]
 exact Array.toList_inj.mp h
theorem kq (a : Prim) : plt a a = false := by
 cases a with
 | int i => exact decide_eq_false (Int.lt_irrefl i)
 | str x => exact decide_eq_false (List.lt_irrefl _)
theorem lQ {a b c : Prim} (h1 : plt a b = true) (h2 : plt b c = true) : plt a c = true := by
 cases a with
 | int i =>
  cases c with
  | str z => rfl
  | int k =>
   cases b with
   | int j => exact decide_eq_true (Int.lt_trans (of_decide_eq_true h1) (of_decide_eq_true h2))
   | str y => exact absurd h2 Bool.false_ne_true
 | str x =>
  cases b with
  | int j => exact absurd h1 Bool.false_ne_true
  | str y =>
   cases c with
   | int k => exact absurd h2 Bool.false_ne_true
   | str z => exact decide_eq_true (List.lt_trans (of_decide_eq_true h1) (of_decide_eq_true h2))
theorem p7 {a b : Prim} (h : a ≠ b) : plt a b = true ∨ plt b a = true := by
 cases a with
 | int i =>
  cases b with
  | int j =>
   rcases Int.lt_or_gt_of_ne (fun q : i = j => h (by rw [q])) with q | q
   ·exact .inl (decide_eq_true q)
   ·exact .inr (decide_eq_true q)
  | str y => exact .inl rfl
 | str x =>
  cases b with
  | int j => exact .inr rfl
  | str y =>
   rcases Classical.em (x.cps.toList < y.cps.toList) with q | q
   ·exact .inl (decide_eq_true q)
   ·rcases Classical.em (y.cps.toList < x.cps.toList) with q' | q'
    ·exact .inr (decide_eq_true q')
    ·exact absurd (by rw [str_eq (List.le_antisymm (List.not_lt.mp q') (List.not_lt.mp q))]) h
theorem iI {a b : Prim} {r s : List Prim} : tlt (a :: r) (b :: s) = if a = b then tlt r s else plt a b := rfl
theorem j3 : ∀ a : List Prim, tlt a a = false
 | [] => rfl
 | a :: r => by rw [iI, if_pos rfl]; exact j3 r
theorem qz {a b c : List Prim} (h1 : tlt a b = true) (h2 : tlt b c = true) : tlt a c = true := by
 induction a generalizing b c with
 | nil =>
  cases c with
  | cons z t => rfl
  | nil =>
   cases b with
   | nil => exact absurd h1 Bool.false_ne_true
   | cons y s => exact absurd h2 Bool.false_ne_true
 | cons a r ih =>
  cases b with
  | nil => exact absurd h1 Bool.false_ne_true
  | cons b s =>
   cases c with
   | nil => exact absurd h2 Bool.false_ne_true
   | cons c t =>
    rw [iI] at h1 h2 ⊢
    by_cases e1 : a = b
    ·subst e1
     rw [if_pos rfl] at h1
     by_cases e2 : a = c
     ·rw [if_pos e2] at h2 ⊢; exact ih h1 h2
     ·rw [if_neg e2] at h2 ⊢; exact h2
    ·rw [if_neg e1] at h1
     by_cases e2 : b = c
     ·subst e2; rw [if_neg e1]; exact h1
     ·rw [if_neg e2] at h2
      have h := lQ h1 h2
      rw [if_neg (fun q => by rw [q, kq] at h; cases h)]
      exact h
theorem tlt_tri {a b : List Prim} (h : a ≠ b) : tlt a b = true ∨ tlt b a = true := by
 induction a generalizing b with
 | nil =>
  cases b with
  | nil => exact absurd rfl h
  | cons y s => exact .inl rfl
 | cons a r ih =>
  cases b with
  | nil => exact .inr rfl
  | cons b s =>
   rw [iI, iI]
   by_cases e : a = b
   ·subst e
    rw [if_pos rfl, if_pos rfl]
    exact ih fun q => h (by rw [q])
   ·rw [if_neg e, if_neg (fun q => e q.symm)]
    exact p7 e
theorem k5 (a : Key) : klt a a = false := by
 cases a with
 | p x => exact kq x
 | t l => exact j3 l
theorem mw {a b c : Key} (h1 : klt a b = true) (h2 : klt b c = true) : klt a c = true := by
 cases a with
 | p x =>
  cases c with
  | t z => rfl
  | p z =>
   cases b with
   | p y => exact lQ h1 h2
   | t y => exact absurd h2 Bool.false_ne_true
 | t x =>
  cases b with
  | p y => exact absurd h1 Bool.false_ne_true
  | t y =>
   cases c with
   | p z => exact absurd h2 Bool.false_ne_true
   | t z => exact qz h1 h2
theorem klt_tri {a b : Key} (h : a ≠ b) : klt a b = true ∨ klt b a = true := by
 cases a with
 | p x =>
  cases b with
  | p y => exact p7 fun q => h (by rw [q])
  | t y => exact .inl rfl
 | t x =>
  cases b with
  | p y => exact .inr rfl
  | t y => exact tlt_tri fun q => h (by rw [q])
theorem rB {a b : Key} (h : klt a b = true) : klt b a = false := by
 cases q : klt b a with
 | false => rfl
 | true => have := mw h q; rw [k5] at this; cases this
theorem insK_mem {k x : Key} : ∀ {l : List Key}, x ∈ insK k l ↔ x = k ∨ x ∈ l
 | [] => by show _ ∈ [_] ↔ _; simp
 | a :: r => by
  rw [fZ]
  split
  ·simp
  ·simp only [List.mem_cons, insK_mem (l := r)]
   constructor
   ·rintro (h | h | h)
    ·exact .inr (.inl h)
    ·exact .inl h
    ·exact .inr (.inr h)
   ·rintro (h | h | h)
    ·exact .inr (.inl h)
    ·exact .inl h
    ·exact .inr (.inr h)
theorem sortK_mem {x : Key} : ∀ {l : List Key}, x ∈ bG l ↔ x ∈ l
 | [] => .rfl
 | a :: r => by
  rw [ga]
  rw [insK_mem, sortK_mem (l := r), List.mem_cons]
theorem ou {k : Key} : ∀ {l : List Key}, (insK k l).length = l.length + 1
 | [] => rfl
 | a :: r => by
  rw [fZ]
  split
  ·rfl
  ·simp only [List.length_cons, ou (l := r)]
theorem g0 : ∀ {l : List Key}, (bG l).length = l.length
 | [] => rfl
 | a :: r => by
  rw [ga]
  rw [ou, g0 (l := r)]; rfl
theorem qp {k : Key} : ∀ {l : List Key}, l.Pairwise (fun a b => klt a b = true) → k ∉ l → (insK k l).Pairwise (fun a b => klt a b = true)
 | [], _, _ => List.pairwise_singleton _ _
 | a :: r, h, hn => by
  obtain ⟨h1, h2⟩ := List.pairwise_cons.mp h
  rw [fZ]
  split
  ·rename_i q
   refine List.pairwise_cons.mpr ⟨fun b hb => ?_, h⟩
   rcases List.mem_cons.mp hb with rfl | hb
   ·exact q
   ·exact mw q (h1 b hb)
  ·rename_i q
   have ne : k ≠ a := fun e => hn (by rw [e]; exact List.mem_cons_self ..)
   refine List.pairwise_cons.mpr ⟨fun b hb => ?_, qp h2 fun e => hn (List.mem_cons_of_mem _ e)⟩
   rcases insK_mem.mp hb with rfl | hb
   ·exact (klt_tri ne).resolve_left q
   ·exact h1 b hb
theorem np : ∀ {l : List Key}, l.Nodup → (bG l).Pairwise (fun a b => klt a b = true)
 | [], _ => .nil
 | a :: r, h => by
  have h' := List.nodup_cons.mp h
  exact qp (np h'.2) fun q => h'.1 (sortK_mem.mp q)
theorem ranks {ks : List Key} (nd : ks.Nodup) : ∃ r : Nat → Nat, (∀ i (h : i < ks.length), r i < ks.length ∧ (bG ks)[r i]? = some ks[i]) ∧ Inj ks.length r ∧ ∀ i j (hi : i < ks.length) (hj : j < ks.length), decide (r i < r j) = klt ks[i] ks[j] := by
 have h : ∀ i, ∃ j, ∀ h : i < ks.length, j < ks.length ∧ (bG ks)[j]? = some ks[i] := fun i => by
  by_cases h : i < ks.length
  ·obtain ⟨j, hj, e⟩ := List.getElem_of_mem (sortK_mem.mpr (List.getElem_mem h))
   exact ⟨j, fun ξ => ⟨by rw [← g0 (l := ks)]; exact hj, by rw [List.getElem?_eq_getElem hj, e]⟩⟩
  ·exact ⟨0, fun q => absurd q h⟩
 obtain ⟨r, hr⟩ := Classical.axiomOfChoice h
 have up := List.pairwise_iff_getElem.mp (np nd)
 have get : ∀ i (h : i < ks.length), ∃ h' : r i < (bG ks).length, (bG ks)[r i] = ks[i] := fun i h => by
  have := (hr i h).2
  obtain ⟨h', e⟩ := List.getElem?_eq_some_iff.mp this
  exact ⟨h', e⟩
 have inj : Inj ks.length r := fun i j hi hj e => by
  have e1 := (hr i hi).2
  rw [e, (hr j hj).2] at e1
  have e2 : ks[j] = ks[i] := by simpa using e1
  rcases Nat.lt_trichotomy i j with q | q | q
  ·exact absurd e2.symm ((List.pairwise_iff_getElem.mp nd) i j hi hj q)
  ·exact q
  ·exact absurd e2 ((List.pairwise_iff_getElem.mp nd) j i hj hi q)
 refine ⟨r, fun i h => hr i h, inj, fun i j hi hj => ?_⟩
 obtain ⟨h1, e1⟩ := get i hi
 obtain ⟨h2, e2⟩ := get j hj
 rw [← e1, ← e2]
 rcases Nat.lt_trichotomy (r i) (r j) with q | q | q
 ·rw [decide_eq_true q]; exact (up _ _ h1 h2 q).symm
 ·have : ¬ r i < r j := by omega
  rw [decide_eq_false this]
  have e : (bG ks)[r i] = (bG ks)[r j] := by simp only [q]
  rw [e]; exact (k5 _).symm
 ·have : ¬ r i < r j := by omega
  rw [decide_eq_false this]
  exact (rB (up _ _ h2 h1 q)).symm
theorem rank_id {n : Nat} {r : Nat → Nat} {p : Array Nat} (g : Gd n p) (hr : ∀ i, i < n → r i < n) (a : Asc r p n) : ∀ k, k < n → r (p.getD k 0) = k := by
 have lo : ∀ k, k < n → k ≤ Rp r p k := by
  intro k
  induction k with
  | zero => intro ξ; exact Nat.zero_le _
  | succ k ih => intro h; exact Nat.lt_of_le_of_lt (ih (Nat.lt_of_succ_lt h)) (a k (k + 1) (Nat.lt_succ_self k) h)
 have hi : ∀ d k, k + d + 1 = n → Rp r p k ≤ k := by
  intro d
  induction d with
  | zero => intro k h; exact Nat.le_of_lt_succ (Nat.lt_of_lt_of_eq (hr _ (g.lt (Nat.lt_of_lt_of_eq (Nat.lt_succ_self k) h))) h.symm)
  | succ d ih =>
   intro k h
   have h' : k + 1 + d + 1 = n := by rw [Nat.add_right_comm k 1 d]; exact h
   exact Nat.le_of_lt_succ (Nat.lt_of_lt_of_le (a k (k + 1) (Nat.lt_succ_self k) (Nat.lt_of_lt_of_eq (Nat.lt_succ_of_le (Nat.le_add_right _ _)) h')) (ih (k + 1) h'))
 intro k h
 exact Nat.le_antisymm (hi (n - (k + 1)) k (by rw [Nat.add_right_comm k _ 1]; exact Nat.add_sub_cancel' h)) (lo k h)
section
variable {C : Cx} {A : Around} {E : Value → Shared → Prop} {s : Shared}
theorem one_lt {f : Bool} {a b : Prim} {u v : Value} {Q : Bool → Shared → Prop} (hu : Prim.isV a u = true) (hv : Prim.isV b v = true) (hc : pcmp a b = true) (h : Q (plt a b) s) : wpAny C.M A (oneLt' f u v) Q E s := by
 cases a with
 | int i =>
  cases b with
  | int j =>
   obtain ⟨t, rfl⟩ := Prim.isV_int hu
   obtain ⟨t', rfl⟩ := Prim.isV_int hv
   cases f
   ·exact kat_one _ _ (PyProof.Rows.lt_int h)
   ·exact oneLt_int h
  | str y => cases hc
 | str x =>
  cases b with
  | int j => cases hc
  | str y =>
   obtain ⟨t, rfl⟩ := Prim.isV_str hu
   obtain ⟨t', rfl⟩ := Prim.isV_str hv
   cases f
   ·exact kat_one _ _ (PyProof.Rows.lt_str h)
   ·exact oneLt_str h
theorem lex_lt {b fin : Bool} {Q : Bool → Shared → Prop} : ∀ (x y : List Prim) (us vs : List Value) (i : Nat), ItemsAre C.pk x us → ItemsAre C.pk y vs → tcmp x y = true → fin = decide (x.length < y.length) → Q (tlt x y) s → KatLex C.prog C.w A b fin Q (us.zip vs) i s := by
 intro x; induction x with
 | nil =>
  intro y ξ ξ i hu hv hc hf h
  cases hu
  refine kat_nil ?_
  cases y with
  | nil => rw [hf]; exact h
  | cons ξ ξ => rw [hf, decide_eq_true (by simp)]; exact h
 | cons p x ih =>
  intro y ξ ξ i hu hv hc hf h
  cases y with
  | nil =>
   cases hv
   rw [List.zip_nil_right]
   exact kat_nil (by rw [hf]; exact h)
  | cons q y =>
   cases hu with
   | cons u1 u2 =>
    cases hv with
    | cons v1 v2 =>
     rw [List.zip_cons_cons]
     refine kat_cons (C.pk.eqBool u1 v1 ?_)
     change Q (if p = q then tlt x y else plt p q) s at h
     change (if p = q then tcmp x y else pcmp p q) = true at hc
     by_cases e : p = q
     ·rw [decide_eq_true e]
      rw [if_pos e] at h hc
      refine kat_yes (ih y _ _ (i + 1) u2 v2 hc ?_ h)
      rw [hf]
      simp
     ·rw [decide_eq_false e]
      rw [if_neg e] at h hc
      exact kat_no (one_lt u1 v1 hc h)
end
section
variable {C : Cx} {ρ : List Addr} {s : Shared} {ks : List Key} {vs : List Value}
theorem RelL.memR {h : Heap} : ∀ {l : List V} {vs : List Value}, RelL ρ h l vs → ∀ v ∈ vs, ∃ x ∈ l, Rel ρ h x v
 | [], _, r, v, hv => by cases r.unnil; cases hv
 | x :: l, _, r, v, hv => by
  obtain ⟨u, us, rfl, r1, r2⟩ := r.uncons
  rcases List.mem_cons.mp hv with rfl | hv
  ·exact ⟨x, by simp, r1⟩
  ·obtain ⟨y, hy, q⟩ := r2.memR v hv
   exact ⟨y, by simp [hy], q⟩
theorem i8 {h : Heap} (r : RelL ρ h (ks.map .ofKey) vs) {i : Nat} (hi : i < ks.length) : Rel ρ h (.ofKey ks[i]) (vs.getD i Value.none) := by
 obtain ⟨rv, e, q⟩ := r.get (i := i) (v := .ofKey ks[i]) (by simp [hi])
 rw [List.getD_eq_getElem?_getD, e]
 exact q
theorem tups_of {a0 : Prim} {h : Heap} : ∀ {ks : List Key} {vs : List Value}, RelL ρ h (ks.map .ofKey) vs → (∀ k ∈ ks, ∃ a l, k = .t (a :: l) ∧ pcmp a0 a = true) → ∃ fs, KatTups h vs fs ∧ fs.length = ks.length ∧ ∀ f ∈ fs, ∃ a, pcmp a0 a = true ∧ Prim.isV a f = true := by
 intro q_; induction q_ with
 | nil =>
  intro ξ r ξ
  cases r.unnil; exact ⟨[], .nil, rfl, fun f hf => by cases hf⟩
 | cons k ks ih =>
  intro ξ r hk
  obtain ⟨u, us, rfl, r1, r2⟩ := r.uncons
  obtain ⟨fs, t, e, hf⟩ := ih r2 fun k hk' => hk k (by simp [hk'])
  obtain ⟨a, l, rfl, hc⟩ := hk _ (List.mem_cons_self ..)
  obtain ⟨x, vs, rfl, ⟨o, items, n, ho, hcl, hd, rfl⟩, rl⟩ := r1.tup_
  obtain ⟨f, fr, e2, f1, f2⟩ := rl.uncons
  have h0 : items[0]? = some f := by rw [← Array.getElem?_toList, e2]; rfl
  refine ⟨f :: fs, .cons ho hcl hd h0 t, by simp [e], fun g hg => ?_⟩
  rcases List.mem_cons.mp hg with rfl | hg
  ·exact ⟨a, hc, Rel.ofPrim.mp f1⟩
  ·exact hf g hg
theorem kind_of (r : RelL ρ s.heap (ks.map .ofKey) vs) (so : sOk ks = true) (h2 : 2 ≤ ks.length) :
  ∃ κ : SortKind, (∀ (A : Around) (E : Value → Shared → Prop) (Q : SortKind → Shared → Prop), Q κ s → wpAny C.M A (keyKind' vs.toArray) Q E s) ∧
   ∀ (A : Around) (i j : Nat) (hi : i < ks.length) (hj : j < ks.length) (Cc : Bool → Shared → Prop), Cc (klt ks[i] ks[j]) s → kas_ask C.prog C.w A κ vs i j Cc s := by
 have hl : vs.length = ks.length := by rw [r.length, List.length_map]
 have hall : ∀ a ∈ ks, ∀ b ∈ ks, kcmp a b = true := by
  unfold sOk at so
  simp only [Bool.and_eq_true, List.all_eq_true] at so
  exact so.2
 obtain ⟨k0, h0⟩ : ∃ k0, k0 ∈ ks := ⟨ks[0], List.getElem_mem (by omega)⟩
 cases k0 with
 | p x =>
  have hp : ∀ k ∈ ks, ∃ y, k = .p y ∧ pcmp x y = true := fun k hk => by
   have := hall _ h0 k hk
   cases k with
   | p y => exact ⟨y, rfl, this⟩
   | t l => cases this
  have hT : ∃ T : Value, (T != Value.type "tuple") = true ∧ (T == T) = true ∧ ∀ v ∈ vs, Looks C.M s.heap (typeOf v) T := by
   cases x with
   | int i =>
    refine ⟨.type "int", rfl, rfl, fun v hv => ?_⟩
    obtain ⟨y, hy, q⟩ := r.memR v hv
    obtain ⟨k, hk, rfl⟩ := List.mem_map.mp hy
    obtain ⟨y, rfl, hc⟩ := hp k hk
    cases y with
    | int j => obtain ⟨t, rfl⟩ := q.int_; exact Looks.of_pure rfl
    | str z => cases hc
   | str i =>
    refine ⟨.type "str", rfl, rfl, fun v hv => ?_⟩
    obtain ⟨y, hy, q⟩ := r.memR v hv
    obtain ⟨k, hk, rfl⟩ := List.mem_map.mp hy
    obtain ⟨y, rfl, hc⟩ := hp k hk
    cases y with
    | int j => cases hc
    | str z => obtain ⟨t, rfl⟩ := q.str_; exact Looks.of_pure rfl
  obtain ⟨T, t1, t2, t3⟩ := hT
  refine ⟨oneType', fun A E Q h => kas_kind (by omega) t3 t1 t2 h, fun A i j hi hj Cc hC => ?_⟩
  have ri := i8 r hi
  have rj := i8 r hj
  obtain ⟨a, ea, ξ⟩ := hp _ (List.getElem_mem hi)
  obtain ⟨b, eb, ξ⟩ := hp _ (List.getElem_mem hj)
  have hc : pcmp a b = true := by
   have := hall _ (List.getElem_mem hi) _ (List.getElem_mem hj)
   rw [ea, eb] at this
   exact this
  rw [ea] at ri hC
  rw [eb] at rj hC
  unfold kas_ask
  rw [keyLt'_oneType]
  exact one_lt (Rel.ofPrim.mp ri) (Rel.ofPrim.mp rj) hc hC
 | t l0 =>
  obtain ⟨a0, l0, rfl⟩ : ∃ a r, l0 = a :: r := by
   cases l0 with
   | nil => have := hall _ h0 _ h0; cases this
   | cons a r => exact ⟨a, r, rfl⟩
  have hp : ∀ k ∈ ks, ∃ a l, k = .t (a :: l) ∧ pcmp a0 a = true := fun k hk => by
   have := hall _ h0 k hk
   cases k with
   | p y => cases this
   | t l =>
    cases l with
    | nil => cases this
    | cons a l =>
     exact ⟨a, l, rfl, (Bool.and_eq_true_iff.mp this).1⟩
  obtain ⟨fs, kt, hfl, hf⟩ := tups_of r hp
  have hT : ∃ T : Value, (T != Value.type "tuple") = true ∧ (T == T) = true ∧ ∀ v ∈ fs, Looks C.M s.heap (typeOf v) T := by
   cases a0 with
   | int i =>
    refine ⟨.type "int", rfl, rfl, fun v hv => ?_⟩
    obtain ⟨a, hc, hv⟩ := hf v hv
    cases a with
    | int j => obtain ⟨t, rfl⟩ := Prim.isV_int hv; exact Looks.of_pure rfl
    | str z => cases hc
   | str i =>
    refine ⟨.type "str", rfl, rfl, fun v hv => ?_⟩
    obtain ⟨a, hc, hv⟩ := hf v hv
    cases a with
    | int j => cases hc
    | str z => obtain ⟨t, rfl⟩ := Prim.isV_str hv; exact Looks.of_pure rfl
  obtain ⟨T, t1, t2, t3⟩ := hT
  refine ⟨tuples' (T != Value.type "tuple"), fun A E Q h => kat_kind kt (by omega) t3 t2 h, fun A i j hi hj Cc hC => ?_⟩
  have ri := i8 r hi
  have rj := i8 r hj
  obtain ⟨a, l, ea, ξ⟩ := hp _ (List.getElem_mem hi)
  obtain ⟨b, m, eb, ξ⟩ := hp _ (List.getElem_mem hj)
  have hc : tcmp (a :: l) (b :: m) = true := by
   have := hall _ (List.getElem_mem hi) _ (List.getElem_mem hj)
   rw [ea, eb] at this
   exact (Bool.and_eq_true_iff.mp this).2
  rw [ea] at ri hC
  rw [eb] at rj hC
  obtain ⟨x, ex, ox, xs, n, hx, cx, dx, ix⟩ := (Rel.tupKey (C := C)).mp ri
  obtain ⟨y, ey, oy, ys, m', hy, cy, dy, iy⟩ := (Rel.tupKey (C := C)).mp rj
  unfold kas_ask
  rw [ex, ey]
  refine kat_lt hx dx hy dy (lex_lt (a :: l) (b :: m) _ _ 0 ix iy hc ?_ hC)
  have e1 : xs.size = (a :: l).length := by rw [← Array.length_toList]; exact ix.length.symm
  have e2 : ys.size = (b :: m).length := by rw [← Array.length_toList]; exact iy.length.symm
  rw [e1, e2]
end
section
variable {C : Cx} {ρ : List Addr} {A : Around} {E : Value → Shared → Prop} {s : Shared} {ks : List Key} {vs : List Value}
theorem sort_out (r : RelL ρ s.heap (ks.map .ofKey) vs) {rk : Nat → Nat} (h1 : ∀ i (h : i < ks.length), rk i < ks.length ∧ (bG ks)[rk i]? = some ks[i]) {p : Array Nat} (g : Gd vs.length p) (a : Asc rk p vs.length) :
  RelL ρ s.heap ((bG ks).map .ofKey) (p.toList.map fun i => vs.getD i Value.none) := by
 have hl : vs.length = ks.length := by rw [r.length, List.length_map]
 rw [hl] at g a
 have hid := rank_id g (fun i h => (h1 i h).1) a
 refine mQ _ _ (by rw [List.length_map, List.length_map, g0, Array.length_toList, g.size]) fun k x v hx hv => ?_
 rw [List.getElem?_map, Option.map_eq_some_iff] at hx hv
 obtain ⟨y, hy, rfl⟩ := hx
 obtain ⟨i, hi, rfl⟩ := hv
 have hk : k < ks.length := by rw [← g0 (l := ks)]; exact (List.getElem?_eq_some_iff.mp hy).1
 have e : p.getD k 0 = i := by rw [Array.getD_eq_getD_getElem?, ← Array.getElem?_toList, hi]; rfl
 have hik : i < ks.length := by rw [← e]; exact g.lt hk
 have q := (h1 i hik).2
 have e3 : rk i = k := by rw [← e]; exact hid k hk
 rw [e3, hy] at q
 have q' : y = ks[i] := by simpa using q
 rw [q']
 exact i8 r hik
theorem qH {a : Addr} {n : Nat} {P : PySem.Fin → Shared → Prop} (ho : s.heap.get? a = some (seqObj "list" vs.toArray n)) (r : RelL ρ s.heap (ks.map .ofKey) vs) (so : sOk ks = true)
  (h : ∀ (out : List Value) (h' : Heap), (∀ b o, s.heap.get? b = some o → b ≠ a → h'.get? b = some o) → (∃ e, h'.get? a = some (seqObj "list" out.toArray e)) → RelL ρ h' ((bG ks).map .ofKey) out → P (.done (.ret .none)) { s with heap := h' }) :
  wpAny C.M A (Builtin.«list.sort» ⟨[.ref a], []⟩) P E s := by
 have hl : vs.length = ks.length := by rw [r.length, List.length_map]
 have so' := so
 unfold sOk at so'
 simp only [Bool.and_eq_true, decide_eq_true_eq] at so'
 have h64 : vs.length < 64 := by rw [hl]; exact so'.1.1
 have nd := so'.1.2
 have fin : ∀ out : List Value, RelL ρ s.heap ((bG ks).map .ofKey) out → P (.done (.ret .none)) { s with heap := sortedHeap s.heap a vs out.toArray } := fun out ro =>
  have kp : ∀ b o, s.heap.get? b = some o → b ≠ a → (sortedHeap s.heap a vs out.toArray).get? b = some o := fun b o e ne => by rw [sortedHeap_old ne (Heap.lt_size e)]; exact e
  have st : Step (fun ξ => True) s.heap (sortedHeap s.heap a vs out.toArray) := ⟨fun b o e t => kp b o e fun q => by
   subst q
   rw [ho] at e
   cases e
   exact absurd t.1 (show Value.type "list" ≠ .type "tuple" by decide), fun b o e n => absurd trivial n⟩
  h out _ kp (sortedHeap_at ho) (ro.step (ρ' := ρ) st ⟨[], by simp⟩)
 rw [list_sort_plain]
 have ha : a < s.heap.objs.size := Heap.lt_size ho
 refine wpAny_bind (listItems_at ho rfl ?_)
 refine wpAny_bind (listUpdate_at ho rfl ?_ (by rw [List.size_toArray, sizeLine_eq]; omega) (Nat.zero_le _))
 obtain ⟨e1, ho1⟩ : ∃ e1, (s.heap.update a (Obj.mapSeq fun ξ => #[])).get? a = some (seqObj "list" #[] e1) := ⟨_, get?_update_seq ho (fun ξ => #[])⟩
 refine wpAny_bind (seqEpoch_at ho1 rfl ?_)
 refine wpAny_bind (wpAny_newTuple ?_ (by show vs.length ≤ _; rw [sizeLine_eq]; omega))
 refine wpAny_bind (wpAny_newList ?_ (Nat.zero_le _))
 refine wpAny_holding ?_
 have ho6 : (((s.heap.update a (Obj.mapSeq fun ξ => #[])).push (seqObj "tuple" vs.toArray 0)).push (seqObj "list" #[] 0)).get? a = some (seqObj "list" #[] e1) := by
  rw [Heap.get?_push_ne _ _ _ (by rw [size_push', Heap.size_update]; exact Nat.ne_of_lt (Nat.lt_succ_of_lt ha)), Heap.get?_push_ne _ _ _ (by rw [Heap.size_update]; exact Nat.ne_of_lt ha)]
  exact ho1
 have kp : ∀ b o, s.heap.get? b = some o → b ≠ a → (((s.heap.update a (Obj.mapSeq fun ξ => #[])).push (seqObj "tuple" vs.toArray 0)).push (seqObj "list" #[] 0)).get? b = some o := fun b o e ne =>
  Heap.get?_push_of_some _ (Heap.get?_push_of_some _ (by rw [Heap.get?_update_ne _ _ _ _ ne]; exact e))
 have st : Step (fun ξ => True) s.heap (((s.heap.update a (Obj.mapSeq fun ξ => #[])).push (seqObj "tuple" vs.toArray 0)).push (seqObj "list" #[] 0)) := ⟨fun b o e t => kp b o e fun q => by
  subst q
  rw [ho] at e
  cases e
  exact absurd t.1 (show Value.type "list" ≠ .type "tuple" by decide), fun b o e n => absurd trivial n⟩
 show wpAny C.M A _ P E { s with heap := ((s.heap.update a (Obj.mapSeq fun ξ => #[])).push (seqObj "tuple" vs.toArray 0)).push (seqObj "list" #[] 0) }
 dsimp only
 by_cases h2 : vs.toArray.size < 2
 ·rw [if_pos h2, if_pos h2]
  refine wpAny_bind (wpAny_pure ?_)
  rw [StateT.run_pure]
  refine wpAny_bind (wpAny_pure ?_)
  dsimp only
  have hout : ((vs.toArray.zip vs.toArray).map (·.2)) = vs.toArray := by
   apply Array.toList_inj.mp
   simp [List.map_snd_zip]
  refine wpAny_bind (seqEpoch_at ho6 rfl ?_)
  refine wpAny_bind (listUpdate_at ho6 rfl ?_ (Nat.zero_le _) (by rw [Array.size_map]; show (vs.toArray.zip vs.toArray).size ≤ _; rw [Array.size_zip, List.size_toArray, sizeLine_eq]; omega))
  simp only [bne_self_eq_false, Bool.false_eq_true, if_false]
  refine wpAny_pure ?_
  have hs : bG ks = ks := by
   rw [List.size_toArray, hl] at h2
   match ks, h2 with
   | [], _ => rfl
   | [_], _ => rfl
   | _ :: _ :: _, h2 => exact absurd h2 (by simp only [List.length_cons]; omega)
  have q := fin vs (by rw [hs]; exact r)
  show P _ { s with heap := sortedHeap s.heap a vs ((vs.toArray.zip vs.toArray).map (·.2)) }
  rw [hout]
  exact q
 ·rw [if_neg h2, if_neg h2]
  have h2' : 2 ≤ vs.length := by rw [List.size_toArray] at h2; omega
  obtain ⟨κ, k1, k2⟩ := kind_of (C := C) (ρ := ρ) (s := { s with heap := ((s.heap.update a (Obj.mapSeq fun ξ => #[])).push (seqObj "tuple" vs.toArray 0)).push (seqObj "list" #[] 0) }) (r.step (ρ' := ρ) st ⟨[], by simp⟩) so (by omega)
  refine wpAny_bind (k1 _ _ _ ?_)
  obtain ⟨rk, r1, r2, r3⟩ := ranks nd
  have run : (kas_sort vs.length).kasWp (kas_ask C.prog C.w A κ vs) (fun p s' => (Gd vs.length p ∧ Asc rk p vs.length) ∧ s' = { s with heap := ((s.heap.update a (Obj.mapSeq fun ξ => #[])).push (seqObj "tuple" vs.toArray 0)).push (seqObj "list" #[] 0) }) { s with heap := ((s.heap.update a (Obj.mapSeq fun ξ => #[])).push (seqObj "tuple" vs.toArray 0)).push (seqObj "list" #[] 0) } :=
   wp_sort (r := rk) (fun i j hi hj Cc hC => by
    rw [hl] at hi hj
    rw [r3 i j hi hj] at hC
    exact k2 A i j hi hj Cc hC) (by rw [hl]; exact r2) (by omega) fun p g a => ⟨⟨g, a⟩, rfl⟩
  refine wpAny_bind (wpAny_mono (kat_run (Q := fun st' s' => ∃ p : Array Nat, p.size = vs.length ∧ arrOf st' = p.map (kas_item (vs.toArray.zip vs.toArray)) ∧ failedOf st' = none ∧ (Gd vs.length p ∧ Asc rk p vs.length) ∧ s' = { s with heap := ((s.heap.update a (Obj.mapSeq fun ξ => #[])).push (seqObj "tuple" vs.toArray 0)).push (seqObj "list" #[] 0) })
   rfl h2' h64 (fun p' st' s' a1 a2 a3 a4 => ⟨p', a1, a2, a3, a4⟩) run) ?_ fun ξ ξ e => e)
  rintro ⟨⟨⟩, st'⟩ s' ⟨p, hp, har, hf, ⟨g, asc⟩, rfl⟩
  dsimp only
  have hout := kat_snds rfl har
  have hsz : (List.toArray (p.toList.map fun i => vs.getD i Value.none)).size = vs.length := by rw [List.size_toArray, List.length_map, Array.length_toList, hp]
  rw [hout]
  refine wpAny_bind (seqEpoch_at ho6 rfl ?_)
  refine wpAny_bind (listUpdate_at ho6 rfl ?_ (Nat.zero_le _) (Nat.le_trans (Nat.le_of_eq hsz) (by rw [sizeLine_eq]; omega)))
  rw [hf]
  simp only [bne_self_eq_false, Bool.false_eq_true, if_false]
  exact wpAny_pure (fin _ (sort_out r r1 g asc))
theorem jH {H : MH} {P : PySem.Fin → Shared → Prop} (R : Rep C ρ H s.heap) (r : RelL ρ s.heap (ks.map .ofKey) vs) (so : sOk ks = true)
  (h : ∀ h' D, Post C ρ H (H ++ [.list ((bG ks).map .ofKey)]) no s.heap h' (ρ ++ [D]) → P (.done (.ret (.ref D))) { s with heap := h' }) :
  wpAny C.M A (newList vs >>= fun l => holding [l] (call (.builtin "list.sort") [l]) >>= fun ξ => ret l) P E s := by
 have hl : vs.length = ks.length := by rw [r.length, List.length_map]
 have so' := so
 unfold sOk at so'
 simp only [Bool.and_eq_true, decide_eq_true_eq] at so'
 refine wpAny_bind (wpAny_newList ?_ (by rw [sizeLine_eq]; omega))
 have hoL : (s.heap.push (seqObj "list" vs.toArray 0)).get? s.heap.objs.size = some (seqObj "list" vs.toArray 0) := Heap.get?_push_size _ rfl
 have kp : ∀ b o, s.heap.get? b = some o → (s.heap.push (seqObj "list" vs.toArray 0)).get? b = some o := fun b o e => Heap.get?_push_of_some _ e
 refine wpAny_bind (wpAny_holding (wpAny_call_entry slot_list_sort ⟨_, hoL, rfl⟩ entry_list_sort (qH (s := { s with heap := s.heap.push (seqObj "list" vs.toArray 0) }) hoL (r.step (ex := no) (ρ' := ρ) (.keeps kp) ⟨[], by simp⟩) so fun out h' k1 k2 ro => ⟨_, rfl, ?_⟩) (args_list_sort _)))
 obtain ⟨c, hc⟩ := k2
 have kp' : ∀ b o, s.heap.get? b = some o → h'.get? b = some o := fun b o e => k1 b o (kp b o e) (Nat.ne_of_lt (Heap.lt_size e))
 exact wpAny_pure (h h' _ (gZ R kp' hc ⟨out.toArray, c, hc, ro.step (ex := no) (.refl _ _) ⟨_, rfl⟩⟩))
end
section
variable {C : Cx} {k : Nat}
theorem o7 : OpL C (k + 4) (fun vs => call (.builtin "sorted") vs) aV := fun A s ρ H l vs v H' Q E o rm R r e hQ => by
 unfold aV jA at e
 split at e
 ·rename_i l
  obtain ⟨u, us, rfl, r₁, r⟩ := r.uncons
  cases r.unnil
  split at e
  ·rename_i xs hl
   split at e
   ·rename_i ks hk
    split at e
    ·rename_i so
     cases e
     obtain ⟨rfl, ξ⟩ := h8 hk
     obtain ⟨a, vs, n, rfl, ha, ho, rl, hsz⟩ := bU R hl r₁
     have h64 : vs.toList.length ≤ 63 := by
      have so' := so
      unfold sOk at so'
      simp only [Bool.and_eq_true, decide_eq_true_eq] at so'
      have := so'.1.1
      rw [Array.length_toList, hsz, List.length_map]; omega
     refine Calls.call_function_entry kind_sorted plain_sorted entry_sorted (args_sorted1 _) ?_
     unfold Builtin.«sorted»
     refine wpAny_bind (m := checkCount "sorted" 1 1 _) (wpAny_pure ?_)
     refine wpAny_bind (collect_list (vs := vs.toList) ⟨_, ho, rfl, n, by simp⟩ ?_ (by rw [sizeLine_eq]; omega))
     have hsz' : ((s.heap.push (seqObj "list" #[] 0)).update s.heap.objs.size (Obj.mapSeq (· ++ vs.toList.toArray))).objs.size = s.heap.objs.size + 1 := by
      rw [Heap.size_update, size_push']
     have kp : ∀ b o, s.heap.get? b = some o → ((s.heap.push (seqObj "list" #[] 0)).update s.heap.objs.size (Obj.mapSeq (· ++ vs.toList.toArray))).get? b = some o := fun b o e => by
      have hlt : b < s.heap.objs.size := Heap.lt_size e
      rw [Heap.get?_update_ne _ _ _ _ (Nat.ne_of_lt hlt), Heap.get?_push_ne _ _ _ (Nat.ne_of_lt hlt)]
      exact e
     have P := Post.keeps (ex := no) R kp (by rw [hsz']; omega)
     exact jH (s := { s with heap := (s.heap.push (seqObj "list" #[] 0)).update s.heap.objs.size (Obj.mapSeq (· ++ vs.toList.toArray)) }) P.rep (rl.post P) so fun h' D P' => ⟨_, rfl, hQ _ h' _ _ (P.transN P') (.ref (by rw [← R.len, List.getElem?_append_right (Nat.le_refl _)]; simp))⟩
    ·exact nul e
   ·exact nul e
  ·rename_i es n hl
   split at e
   ·rename_i so
    cases e
    obtain ⟨a, rfl, ha, ob⟩ := cX R ⟨n, hl⟩ r₁
    obtain ⟨od, des, ep, raw, hsz, hk⟩ := gS ob
    have h64 : es.length ≤ 63 := by
     have so' := so
     unfold sOk at so'
     simp only [Bool.and_eq_true, decide_eq_true_eq] at so'
     have := so'.1.1
     rw [List.length_map] at this; omega
    refine Calls.call_function_entry kind_sorted plain_sorted entry_sorted (args_sorted1 _) ?_
    unfold Builtin.«sorted»
    refine wpAny_bind (m := checkCount "sorted" 1 1 _) (wpAny_pure ?_)
    refine dd (wpAny_bind (dd (kdu_collect (A := A.in1) (ql (eR o R ha)) rm.hd raw (by rw [hsz, sizeLine_eq]; omega) fun h' tk acc kp hits hle => ?_)))
    have P := Post.keeps (ex := no) R kp hle
    have rl : RelL ρ s.heap ((es.map (·.1)).map .ofKey) acc.toList := mQ _ _ (by simp [hits.1, hsz]) fun i x v hx hv => by
     rw [List.getElem?_map, Option.map_eq_some_iff] at hx
     obtain ⟨e, he, rfl⟩ := hx
     rw [List.getElem?_map, Option.map_eq_some_iff] at he
     obtain ⟨e, he, rfl⟩ := he
     obtain ⟨de, h1, h2⟩ := hits.2 i v (by rw [← Array.getElem?_toList]; exact hv)
     obtain ⟨de', h3, h4⟩ := hk i e he
     rw [h1] at h3; cases h3
     exact h2 ▸ h4
    exact jH (s := (sw s h' tk)) P.rep (rl.post P) so fun h'' D P' => fun ξ => ⟨_, rfl, hQ _ h'' _ _ (P.transN P') (.ref (by rw [← R.len, List.getElem?_append_right (Nat.le_refl _)]; simp))⟩
   ·exact nul e
  ·exact nul e
 ·exact nul e
end
theorem rC : typeLookup (.type "list") "keys" = pure none := am_miss_of_fast (by kernel_rfl)
section
variable {prog : Program} {w : World} {A : Around} {E : Value → Shared → Prop} {s : Shared}
theorem no_keys {a : Addr} {o : Obj} {xs : Array Value} {k : Nat} {Q : Option Value → Shared → Prop} (hx : s.heap.get? a = some o) (hc : o.cls = .type "list") (hdat : o.data = .seq xs k) (hd : o.dict = none) (hA : A.handled = none)
  (h : ∀ h' tk, (∀ b ob, s.heap.get? b = some ob → h'.get? b = some ob) → Q none (sw s h' tk)) : wpAny (model prog w) A (getAttr? (.ref a) "keys") Q E s := by
 obtain ⟨c, dct, dat, sl⟩ := o
 simp only at hc hdat hd
 subst hc hdat hd
 obtain ⟨hp, g, d, tk, os⟩ := s
 have hT : ∀ tk', (⟨hp, g, d, tk', os⟩ : Shared).TypeIs (.ref a) "list" := fun ξ => ⟨_, hx, rfl⟩
 have f1 := sub_AttributeError
 have f3 := F.slot_list_getattribute.lookup
 have f4 := F.slot_list_getattribute.bind (.ref a)
 have f5 := am_list_getattr_none
 unfold getAttr? getAttrBy? getAttrBy
 repeat (any_goals (first | assumption | exact hT _ | ((with_reducible show wpAny _ _ (call (Value.builtin "list.__getattribute__") _ _) _ _ _); refine call_meets F.slot_list_getattribute (hT _) am_entry_list_getattribute (F.args_list_getattribute_2 _ _) (meets_getattribute_miss_list a xs k sl "keys" _ rC (by decide) (by decide +kernel)) ⟨hx, hA, fun h' tk' e hx' => ?_⟩) | wp_step))
 obtain ⟨t', u', he⟩ := hx'.there
 show wpAny _ _ (getattributeRaised _ _ _ _ _ _ _) _ _ _
 unfold getattributeRaised
 repeat (any_goals (first | assumption | wp_step))
 exact h _ _ hx'.keeps
end
theorem gQ : entryFor table "dict.update.loop" = some Builtin.«dict.update.loop» := entryFor_of_tree (by kernel_rfl)
theorem dD : plainId "dict.update.loop" = true := by decide +kernel
section
variable {C : Cx} {ρ : List Addr} {A : Around} {h₀ : Heap}
theorem o5 {E : Value → Shared → Prop} {s : Shared} {a : Addr} {vs : List Value} {Q : List Value → Shared → Prop} (ht : TupAt s.heap a vs) (h : Q vs s) : wpAny C.M A (Builtin.Dict.pairItems (.ref a)) Q E s := by
 obtain ⟨o, items, n, ho, hc, hd, rfl⟩ := ht
 unfold Builtin.Dict.pairItems
 refine wpAny_bind (wpAny_typeOf (T := "tuple") ⟨o, ho, hc⟩ ?_)
 rw [if_pos (by decide)]
 refine wpAny_bind ?_
 show wpAny _ _ (load a >>= _) _ _ _
 refine wpAny_bind (wpAny_load ho ?_)
 rw [hd]
 exact wpAny_pure (wpAny_pure h)
theorem lG {es es' : List (Key × V)} {x : V} {rest : List V} (h : e8 es (x :: rest) = some es') : ∃ p vx, x = .tup [.ofPrim p, vx] ∧ e8 (dput es (.p p) vx) rest = some es' := by
 cases x with
 | tup l =>
  cases l with
  | nil => exact nul h
  | cons a l =>
   cases l with
   | nil => exact nul h
   | cons b l =>
    cases l with
    | nil =>
     obtain ⟨p, hk, h⟩ := Option.bind_eq_some_iff.mp (show a.prim?.bind (fun p => e8 (dput es (.p p) b) rest) = some es' from h)
     exact ⟨p, b, by rw [V.prim?_eq hk], h⟩
    | cons ξ ξ => exact nul h
 | _ => exact nul h
theorem dput_len {es : List (Key × V)} {k : Key} {v : V} : (dput es k v).length ≤ es.length + 1 := by
 unfold dput
 split <;> simp
theorem upd_loop {d I ax : Addr} {items : Array Value} {R : Result → Shared → Prop} (hh : A.handled = none) (hI : ax ≠ I) (hdI : d ≠ I) (hda : d ≠ ax) (nd : h₀.get? d = none) (nI : h₀.get? I = none) :
  ∀ (rest : List V) (pre vs : List Value) (s : Shared) (es es' : List (Key × V)) (kvs : List (Prim × Value)), items.toList = pre ++ vs → RelL ρ h₀ rest vs → e8 es rest = some es' → es.length + rest.length ≤ 2000 →
   All2 (EntP ρ h₀) es kvs → (∀ b o, h₀.get? b = some o → s.heap.get? b = some o) → s.heap.DictOf C.pk d kvs → s.heap.IsListIter I ax pre.length → s.heap.IsList ax items →
   (∀ h' tk kvs', All2 (EntP ρ h₀) es' kvs' → h'.DictOf C.pk d kvs' → (∀ b o, h₀.get? b = some o → h'.get? b = some o) → R (.ok (.ret .none)) (sw s h' tk)) →
   codeAny C.M A (.builtin "dict.update.loop" ⟨[.ref d, .ref I, rawInt ((pre.length : Nat) : Int), .none], []⟩) R s := by
 intro q_; induction q_ with
 | nil =>
  intro pre vs s es es' kvs hi hr hp hl a2 kp hD hit hls k
  cases hr.unnil
  cases hp
  have W := Walks.list (prog := C.prog) (w := C.w) (A := A.in1) hh I ax hI items
  have hn : pre.length = items.size := by rw [← Array.length_toList, hi, List.append_nil]
  refine codeAny_builtin gQ ?_
  rw [Around.under_plainId dD _]
  show wpAny _ A.in1 (pyNext (.ref I) >>= _) _ _ s
  refine wpAny_bind (W.done s _ _ ⟨by rw [← hn]; exact hit, hls⟩ fun h' tk hk => ?_)
  have keepI : ∀ b o, h₀.get? b = some o → h'.get? b = some o := fun b o e => hk b o (fun q => by rw [List.mem_singleton.mp q, nI] at e; cases e) (kp b o e)
  have hD' : h'.DictOf C.pk d kvs := f8 hD fun o e => hk d o (fun q => hdI (List.mem_singleton.mp q)) e
  show wpAny _ _ (Builtin.Dict.addKeywords d [] >>= _) _ _ _
  exact wpAny_bind (wpAny_pure (wpAny_pure (k h' tk kvs a2 hD' keepI)))
 | cons x rest ih =>
  intro pre vs s es es' kvs hi hr hp hl a2 kp hD hit hls k
  obtain ⟨u, us, rfl, r1, r2⟩ := hr.uncons
  obtain ⟨p, vx, rfl, hq⟩ := lG hp
  obtain ⟨c, ws, rfl, ht, rl⟩ := r1.tup_
  obtain ⟨w1, ws, rfl, q1, rl⟩ := rl.uncons
  obtain ⟨w2, ws, rfl, q2, rl⟩ := rl.uncons
  cases rl.unnil
  have hkey : Prim.isV p w1 = true := Rel.ofPrim.mp q1
  have W := Walks.list (prog := C.prog) (w := C.w) (A := A.in1) hh I ax hI items
  have hn : pre.length < items.size := by rw [← Array.length_toList, hi, List.length_append, List.length_cons]; omega
  refine codeAny_builtin gQ ?_
  rw [Around.under_plainId dD _]
  show wpAny _ A.in1 (pyNext (.ref I) >>= _) _ _ s
  refine wpAny_bind (W.item pre.length s _ _ hn ⟨hit, hls⟩ fun v h' tk hv st hk => ?_)
  obtain rfl : v = .ref c := by
   rw [← Array.getElem?_toList, hi, List.getElem?_append_right (Nat.le_refl _)] at hv
   simpa using hv.symm
  have keepI : ∀ b o, h₀.get? b = some o → h'.get? b = some o := fun b o e => hk b o (fun q => by rw [List.mem_singleton.mp q, nI] at e; cases e) (kp b o e)
  have hD' : h'.DictOf C.pk d kvs := f8 hD fun o e => hk d o (fun q => hdI (List.mem_singleton.mp q)) e
  have ht' : TupAt h' c [w1, w2] := ht.step (ex := no) (.keeps keepI)
  refine wpAny_bind (wpAny_holding (wpAny_bind (wpAny_tryCatch (o5 ht' ?_))))
  have hkl : kvs.length ≤ sizeLine := by rw [← a2.length, sizeLine_eq]; simp only [List.length_cons] at hl; omega
  refine wpAny_holding (wpAny_dictSet_pairs (knd := C.pk) (k := p) (s := (sw s h' tk)) hkey hD' (fun h'' hD'' hs => ?_) hkl)
  have oth : ∀ b o, b ≠ d → h'.get? b = some o → h''.get? b = some o := fun b o ne e => (hs.2 b ne).trans e
  refine wpAny_pure ⟨plainId_quiet dD _, ?_⟩
  have e1 : (rawInt (((pre.length : Nat) : Int) + 1)) = rawInt (((pre ++ [Value.ref c]).length : Nat) : Int) := by simp
  rw [e1]
  obtain ⟨oit, i1, i2, i3⟩ := st.1
  refine ih (pre ++ [Value.ref c]) us _ _ es' _ (by rw [hi]; simp) r2 hq ?_ (EntP.put a2 p q2) (fun b o e => oth b o (fun q => by rw [q, nd] at e; cases e) (keepI b o e)) hD'' ?_ ?_ k
  ·have := dput_len (es := es) (k := .p p) (v := vx)
   simp only [List.length_cons] at hl
   omega
  ·exact ⟨oit, oth I oit hdI.symm i1, i2, by rw [i3]; simp⟩
  ·obtain ⟨ol, l1, l2⟩ := st.2
   exact ⟨ol, oth ax ol hda.symm l1, l2⟩
theorem pe {k : Nat} : OpL C (k + 2) (fun vs => call (.type "dict") vs) gn := fun A s ρ H l vs v H' Q E o rm R r e hQ => by
 unfold gn at e
 split at e
 ·rename_i l
  obtain ⟨u, us, rfl, r₁, r⟩ := r.uncons
  cases r.unnil
  split at e
  ·rename_i xs hl
   split at e
   ·rename_i hz
    split at e
    ·rename_i es' hp
     cases e
     obtain ⟨a, vs, n, rfl, ha, ho, rl, hsz⟩ := bU R hl r₁
     refine callType_codes (Q₁ := fun obj s₁ => obj = .ref s.heap.objs.size ∧ s₁ = { s with heap := s.heap.push { cls := .type "dict", data := .dict #[] } }) PySem.F.kt_called_dict (PySem.F.kt_typeCall_dict_1 _) PySem.F.entry_dict_init (kt_code_dict_new _ ⟨rfl, rfl⟩) ?_
     rintro obj s₁ ⟨rfl, rfl⟩
     have hnew : (s.heap.push { cls := .type "dict", data := .dict #[] }).DictOf C.pk s.heap.objs.size [] := Heap.DictOf.new s.heap
     have hlt : a < s.heap.objs.size := Heap.lt_size ho
     have ho' : (s.heap.push { cls := .type "dict", data := .dict #[] }).get? a = some (dn vs n) := Heap.get?_push_of_some _ ho
     refine ⟨hnew.typeIs, PySem.F.args_dict_init_2 _ _, ?_⟩
     unfold Builtin.«dict.__init__»
     refine wpAny_bind ?_
     unfold Builtin.Dict.selfAndRest
     refine wpAny_bind (wpAny_notOrdered_dict hnew.typeIs ?_)
     show wpAny _ _ (pure (s.heap.objs.size, [Value.ref a])) _ _ _
     refine wpAny_pure ?_
     show wpAny _ _ (Builtin.Dict.updateFrom "dict.__init__" s.heap.objs.size (.ref a) [] .none) _ _ _
     unfold Builtin.Dict.updateFrom
     refine wpAny_bind (wpAny_typeOf (T := "list") ⟨_, ho', rfl⟩ ?_)
     rw [if_pos (by decide)]
     refine wpAny_bind (no_keys ho' rfl rfl rfl rm.hd fun h₁ tk₁ kp₁ => ?_)
     rw [if_pos (by decide)]
     refine wpAny_bind (wpAny_rule ?_)
     have ho₁ : h₁.get? a = some (dn vs n) := kp₁ _ _ ho'
     have hD₁ : h₁.DictOf C.pk s.heap.objs.size [] := f8 hnew (kp₁ _)
     refine wpAny_bind (wpAny_pyIter_list ⟨_, ho₁, rfl, n, rfl⟩ ?_)
     have kp : ∀ b o, s.heap.get? b = some o → h₁.get? b = some o := fun b o e => kp₁ b o (Heap.get?_push_of_some _ e)
     have hd₁ : s.heap.objs.size < h₁.objs.size := by
      obtain ⟨od, ξ, ξ, hg, ξ⟩ := hD₁
      exact Heap.lt_size hg
     have hI : (h₁.push ({ cls := .type "list_iterator", data := .fields #[.ref a, .int 0 0] } : Obj)).get? h₁.objs.size = some { cls := .type "list_iterator", data := .fields #[.ref a, .int 0 0] } := Heap.get?_push_size _ rfl
     have hlim : xs.length ≤ 1000 := hz
     refine wpAny_pure ⟨plainId_quiet dD _, ?_⟩
     refine upd_loop (A := A.in1) (h₀ := s.heap) (ρ := ρ) (d := s.heap.objs.size) (I := h₁.objs.size) (ax := a) (items := vs) rm.hd (Nat.ne_of_lt (Nat.lt_trans hlt hd₁)) (Nat.ne_of_lt hd₁) (Nat.ne_of_gt hlt) (Heap.get?_none_of_le (Nat.le_refl _)) (Heap.get?_none_of_le (Nat.le_of_lt hd₁))
      xs [] vs.toList { s with heap := h₁.push ({ cls := .type "list_iterator", data := .fields #[.ref a, .int 0 0] } : Obj), toks := tk₁ } [] es' [] rfl rl hp (by simp only [List.length_nil]; omega) .nil (fun b o e => Heap.get?_push_of_some _ (kp b o e)) (f8 hD₁ fun o e => Heap.get?_push_of_some _ e) ⟨_, hI, rfl, rfl⟩ ⟨dn vs n, Heap.get?_push_of_some _ ho₁, rfl, n, rfl⟩ fun h' tk kvs' a2 hD' kp' => ?_
     have hg : ∃ o, h'.get? s.heap.objs.size = some o := by obtain ⟨o, ξ, ξ, ho, ξ⟩ := hD'; exact ⟨o, ho⟩
     obtain ⟨oD, hoD⟩ := hg
     refine ⟨rfl, hQ _ h' _ _ (gZ R kp' hoD (.inl ⟨kvs', hD', a2.mono fun e x q => ⟨q.1, q.2.step (ex := no) (.keeps kp') ⟨_, rfl⟩⟩⟩)) (.ref (d7 R))⟩
    ·exact nul e
   ·exact nul e
  ·exact nul e
 ·exact nul e
end
theorem mm {v : V} {H H' : MH} {src : Src} (e : oj v H = some (src, H')) : ∃ l es n, v = .ref l ∧ H[l]? = some (.dict es n) ∧ allP es = true ∧ src = .vals l es n ∧ H' = H := by
 unfold oj at e
 cases v with
 | ref l =>
  dsimp only at e
  cases hl : H[l]? with
  | none => rw [hl] at e; exact nul e
  | some m =>
   rw [hl] at e
   cases m with
   | dict es n =>
    dsimp only at e
    cases hp : allP es with
    | true => rw [hp] at e; cases e; exact ⟨l, es, n, rfl, hl, hp, rfl, rfl⟩
    | false => rw [hp] at e; exact nul e
   | _ => exact nul e
 | _ => exact nul e
section
variable {C : Cx} {k : Nat} {sc : Scope} {ρ : List Addr} {H : MH} {h : Heap}
theorem bC : OpL C (k + 4) (fun vs => call (.builtin "sorted") vs) aV := o7
theorem qY : OpL C (k + 2) (fun vs => call (.type "dict") vs) gn := pe
theorem oT {ob : Expr} {apos pos : Pos} {fo : EM V} (hob : SimE C k sc ob fo) (hbase : ∀ env, attributeBase ob "values" env (eval ob env) = eval ob env) (hline : (apos.endLine == pos.line) = true) :
  io C k sc (.Call (.Attribute ob "values" apos) [] [] pos) (fun loc => bnd (fo loc) oj) := fun A env s ρ H loc src H' Q E o rm hsc R F e hQ => by
 obtain ⟨a, H₁, ea, e⟩ := an e
 obtain ⟨l, es, n, rfl, hl, hp, rfl, rfl⟩ := mm e
 have hs : dU ([] : List Expr) = true := rfl
 refine wpAny_Call_method (hbase env) rfl hline PySem.F.plainAttrs_dict PySem.F.slot_dict_values PySem.F.type_dict_values (hob o rm hsc R F ea fun ρ₁ h₁ tk₁ ra P₁ r₁ => ?_)
 obtain ⟨x, rfl, hx, ob⟩ := cX P₁.rep ⟨n, hl⟩ r₁
 obtain ⟨kvs, hd, a2⟩ := fG ob hp
 have hd' := id hd
 obtain ⟨od, des, ep, hod, hxd, hdd, rest⟩ := hd'
 refine ⟨⟨od, hod, hxd.1⟩, fun a e => by cases e; exact ⟨od, hod, hxd.2.1⟩, ?_⟩
 refine eW (first := [.ref x]) (fa := lNil) (l := []) nv hs aI o rm hsc P₁.rep (F.post P₁) rfl fun ρ₂ h₂ tk₂ vs P₂ r₂ => ?_
 cases r₂.unnil
 have hx₂ : ρ₂[l]? = some x := by obtain ⟨t, rfl, ξ⟩ := P₂.ext; exact dk hx
 have ob₂ : ObjAt C ρ₂ h₂ x (.dict es n) := P₂.rep.at' hl hx₂
 obtain ⟨kvs, hd, a2⟩ := fG ob₂ hp
 have lo := eR o P₂.rep hx₂
 refine call_meetsIn PySem.F.slot_dict_values hd.typeIs PySem.F.entry_dict_values (PySem.F.args_dict_values_1 _) (meets_dict_values C.pk x lo) ⟨⟨kvs, hd⟩, ?_⟩
 obtain ⟨ep, hda⟩ := hd.dictAt
 refine wpAny_pyIter_values (knd := C.pk) (d := x) (kvs := kvs) (ep := ep) ⟨_, Heap.get?_push_size _ rfl, rfl, rfl⟩ (hda.push _) ?_
 generalize ho1 : ({ cls := .type "dict_values", data := .fields #[.ref x] } : Obj) = o1
 generalize ho2 : ({ cls := .type "dict_valueiterator", data := .fields #[.ref x, .int 0 0, .int kvs.length 0, .int ep 0] } : Obj) = o2
 have b1 := cv h₂ o1
 have P₃ := Post.keeps (ex := no) P₂.rep (fun b y e => Heap.get?_push_of_some o2 (Heap.get?_push_of_some o1 e)) (Nat.le_trans b1 (cv _ _))
 have hle : s.heap.objs.size ≤ (h₂.push o1).objs.size := Nat.le_trans (Nat.le_trans P₁.size P₂.size) b1
 obtain ⟨od, des, hod, hxd, hdd, ξ⟩ := hda
 refine hQ ρ₂ _ _ (h₂.push o1).objs.size (h₂.push o1).objs.size (P₁.transN (P₂.transN P₃)) ⟨rfl, x, ep, hx₂, ⟨o2, Heap.get?_push_size _ (by rw [← ho2]; rfl), by rw [← ho2], ?_⟩, ⟨od, des, Heap.get?_push_of_some _ (Heap.get?_push_of_some _ hod), hdd⟩⟩ (fP P₂.rep b1 b1) hle hle ⟨hl, hp⟩
 rw [← ho2, a2.length]; rfl
end
theorem at_held (C : Cx) : AttrOk C 204 "held" := ⟨by kernel_rfl, by kernel_rfl, ⟨none, by kernel_rfl, by kernel_rfl⟩⟩
theorem st_held (C : Cx) : SetOk C 204 "held" := ⟨by kernel_rfl, by kernel_rfl, by kernel_rfl, by kernel_rfl⟩
theorem at_inside (C : Cx) : AttrOk C 204 "inside" := ⟨by kernel_rfl, by kernel_rfl, ⟨none, by kernel_rfl, by kernel_rfl⟩⟩
theorem qE (C : Cx) : SetOk C 204 "inside" := ⟨by kernel_rfl, by kernel_rfl, by kernel_rfl, by kernel_rfl⟩
theorem at_sites (C : Cx) : AttrOk C 204 "sites" := ⟨by kernel_rfl, by kernel_rfl, ⟨none, by kernel_rfl, by kernel_rfl⟩⟩
theorem st_sites (C : Cx) : SetOk C 204 "sites" := ⟨by kernel_rfl, by kernel_rfl, by kernel_rfl, by kernel_rfl⟩
theorem at_gone (C : Cx) : AttrOk C 204 "gone" := ⟨by kernel_rfl, by kernel_rfl, ⟨none, by kernel_rfl, by kernel_rfl⟩⟩
theorem st_gone (C : Cx) : SetOk C 204 "gone" := ⟨by kernel_rfl, by kernel_rfl, by kernel_rfl, by kernel_rfl⟩
theorem at_summary (C : Cx) : AttrOk C 204 "summary" := ⟨by kernel_rfl, by kernel_rfl, ⟨none, by kernel_rfl, by kernel_rfl⟩⟩
theorem oQ (C : Cx) : SetOk C 204 "summary" := ⟨by kernel_rfl, by kernel_rfl, by kernel_rfl, by kernel_rfl⟩
theorem at_is_new (C : Cx) : AttrOk C 204 "is_new" := ⟨by kernel_rfl, by kernel_rfl, ⟨none, by kernel_rfl, by kernel_rfl⟩⟩
theorem lO (C : Cx) : SetOk C 204 "is_new" := ⟨by kernel_rfl, by kernel_rfl, by kernel_rfl, by kernel_rfl⟩
theorem at_code (C : Cx) : AttrOk C 204 "code" := ⟨by kernel_rfl, by kernel_rfl, ⟨none, by kernel_rfl, by kernel_rfl⟩⟩
theorem st_code (C : Cx) : SetOk C 204 "code" := ⟨by kernel_rfl, by kernel_rfl, by kernel_rfl, by kernel_rfl⟩
theorem at_summaries (C : Cx) : AttrOk C 204 "summaries" := ⟨by kernel_rfl, by kernel_rfl, ⟨none, by kernel_rfl, by kernel_rfl⟩⟩
theorem mK (C : Cx) : SetOk C 204 "summaries" := ⟨by kernel_rfl, by kernel_rfl, by kernel_rfl, by kernel_rfl⟩
theorem at_leaks (C : Cx) : AttrOk C 54 "leaks" := ⟨by kernel_rfl, by kernel_rfl, ⟨none, by kernel_rfl, by kernel_rfl⟩⟩
theorem st_leaks (C : Cx) : SetOk C 54 "leaks" := ⟨by kernel_rfl, by kernel_rfl, by kernel_rfl, by kernel_rfl⟩
theorem at_kept (C : Cx) : AttrOk C 54 "kept" := ⟨by kernel_rfl, by kernel_rfl, ⟨none, by kernel_rfl, by kernel_rfl⟩⟩
theorem st_kept (C : Cx) : SetOk C 54 "kept" := ⟨by kernel_rfl, by kernel_rfl, by kernel_rfl, by kernel_rfl⟩
theorem jg (C : Cx) : AttrOk C 54 "told" := ⟨by kernel_rfl, by kernel_rfl, ⟨none, by kernel_rfl, by kernel_rfl⟩⟩
theorem st_told (C : Cx) : SetOk C 54 "told" := ⟨by kernel_rfl, by kernel_rfl, by kernel_rfl, by kernel_rfl⟩
theorem at_key (C : Cx) : AttrOk C 250 "key" := ⟨by kernel_rfl, by kernel_rfl, ⟨none, by kernel_rfl, by kernel_rfl⟩⟩
theorem st_key (C : Cx) : SetOk C 250 "key" := ⟨by kernel_rfl, by kernel_rfl, by kernel_rfl, by kernel_rfl⟩
theorem rI (C : Cx) : AttrOk C 250 "params" := ⟨by kernel_rfl, by kernel_rfl, ⟨none, by kernel_rfl, by kernel_rfl⟩⟩
theorem qD (C : Cx) : SetOk C 250 "params" := ⟨by kernel_rfl, by kernel_rfl, by kernel_rfl, by kernel_rfl⟩
theorem at_registers (C : Cx) : AttrOk C 250 "registers" := ⟨by kernel_rfl, by kernel_rfl, ⟨none, by kernel_rfl, by kernel_rfl⟩⟩
theorem mM (C : Cx) : SetOk C 250 "registers" := ⟨by kernel_rfl, by kernel_rfl, by kernel_rfl, by kernel_rfl⟩
theorem at_blocks (C : Cx) : AttrOk C 250 "blocks" := ⟨by kernel_rfl, by kernel_rfl, ⟨none, by kernel_rfl, by kernel_rfl⟩⟩
theorem qF (C : Cx) : SetOk C 250 "blocks" := ⟨by kernel_rfl, by kernel_rfl, by kernel_rfl, by kernel_rfl⟩
theorem oK (C : Cx) : AttrOk C 250 "captured" := ⟨by kernel_rfl, by kernel_rfl, ⟨none, by kernel_rfl, by kernel_rfl⟩⟩
theorem nn (C : Cx) : SetOk C 250 "captured" := ⟨by kernel_rfl, by kernel_rfl, by kernel_rfl, by kernel_rfl⟩
theorem at_results (C : Cx) : AttrOk C 250 "results" := ⟨by kernel_rfl, by kernel_rfl, ⟨none, by kernel_rfl, by kernel_rfl⟩⟩
theorem oR (C : Cx) : SetOk C 250 "results" := ⟨by kernel_rfl, by kernel_rfl, by kernel_rfl, by kernel_rfl⟩
theorem at_recovery (C : Cx) : AttrOk C 250 "recovery" := ⟨by kernel_rfl, by kernel_rfl, ⟨none, by kernel_rfl, by kernel_rfl⟩⟩
theorem nk (C : Cx) : SetOk C 250 "recovery" := ⟨by kernel_rfl, by kernel_rfl, by kernel_rfl, by kernel_rfl⟩
theorem pE (C : Cx) : MethOk C 54 "told_by" 51 := ⟨by kernel_rfl, by kernel_rfl, by kernel_rfl, by kernel_rfl⟩
theorem dH (C : Cx) : MethOk C 204 "tokens_of" 79 := ⟨by kernel_rfl, by kernel_rfl, by kernel_rfl, by kernel_rfl⟩
theorem dW (C : Cx) : MethOk C 204 "tokens_of_all" 86 := ⟨by kernel_rfl, by kernel_rfl, by kernel_rfl, by kernel_rfl⟩
theorem iC (C : Cx) : MethOk C 204 "reached" 93 := ⟨by kernel_rfl, by kernel_rfl, by kernel_rfl, by kernel_rfl⟩
theorem rg (C : Cx) : MethOk C 204 "loaded" 100 := ⟨by kernel_rfl, by kernel_rfl, by kernel_rfl, by kernel_rfl⟩
theorem fB (C : Cx) : MethOk C 204 "note" 107 := ⟨by kernel_rfl, by kernel_rfl, by kernel_rfl, by kernel_rfl⟩
theorem mX (C : Cx) : MethOk C 204 "give" 114 := ⟨by kernel_rfl, by kernel_rfl, by kernel_rfl, by kernel_rfl⟩
theorem fC (C : Cx) : MethOk C 204 "leak" 128 := ⟨by kernel_rfl, by kernel_rfl, by kernel_rfl, by kernel_rfl⟩
theorem pG (C : Cx) : MethOk C 204 "put" 135 := ⟨by kernel_rfl, by kernel_rfl, by kernel_rfl, by kernel_rfl⟩
theorem pF (C : Cx) : MethOk C 204 "put_out" 142 := ⟨by kernel_rfl, by kernel_rfl, by kernel_rfl, by kernel_rfl⟩
theorem lH (C : Cx) : MethOk C 204 "close_over" 182 := ⟨by kernel_rfl, by kernel_rfl, by kernel_rfl, by kernel_rfl⟩
theorem gt (C : Cx) : MethOk C 204 "look_at_call" 196 := ⟨by kernel_rfl, by kernel_rfl, by kernel_rfl, by kernel_rfl⟩
theorem mh (C : Cx) : MethOk C 204 "follow" 201 := ⟨by kernel_rfl, by kernel_rfl, by kernel_rfl, by kernel_rfl⟩
theorem dp (C : Cx) : C.Ok → Rel [] C.base (.tup [.str "beyond"]) (.ref 30) := fun o => by
 have h := o.X 30 _ (rfl : List.lookup 30 C.K = some _)
 exact ⟨30, _, rfl, ⟨_, _, _, h, rfl, rfl, rfl⟩, .cons ⟨_, rfl⟩ .nil⟩
theorem gC (C : Cx) {t : Tok} : C.Ok → Rel [] C.base (.int (-1)) (.int (-1) t) := fun o => ⟨_, rfl⟩
noncomputable def pL (f : EM V) : EM Src := fun loc => bnd (f loc) oj
theorem aZ {f : EM V} {tgt : Expr} : ∀ loc H src H', itV f loc H = some (src, H') → fw src tgt = true := fun loc H src H' e => by
 obtain ⟨v, H₁, ξ, e⟩ := an e
 cases mn e with
 | list l xs hv hl hs hH => subst hs; rfl
 | dict l es n hv hl hs hH => subst hs; rfl
theorem j2 {f : EM (List V)} {tgt : Expr} : ∀ loc H src H', itL dJ f loc H = some (src, H') → fw src tgt = true := fun loc H src H' e => by
 obtain ⟨v, H₁, ξ, e⟩ := an e
 cases kX e with
 | one b e hb hs hH => subst hs; rfl
 | two a b e hb hs hH => subst hs; rfl
theorem pZ {f : EM (List V)} {elts : List Expr} {n : Nat} {p : Pos} : ∀ loc H src H', itL jM f loc H = some (src, H') → fw src (.Tuple elts n p) = true := fun loc H src H' e => by
 obtain ⟨v, H₁, ξ, e⟩ := an e
 obtain ⟨j, xs, rfl, hl, rfl, rfl⟩ := mq e
 rfl
theorem to_vals {f : EM V} {tgt : Expr} : ∀ loc H src H', pL f loc H = some (src, H') → fw src tgt = true := fun loc H src H' e => by
 obtain ⟨v, H₁, ξ, e⟩ := an e
 obtain ⟨l, es, n, rfl, hl, hp, rfl, rfl⟩ := mm e
 rfl
inductive Ok {α : Type} (x : OM α) (H : MH) (P : α → MH → Prop) : Prop where
 | mk (a : α) (H' : MH) (e : x H = some (a, H')) (h : P a H') : Ok x H P
section
variable {α β : Type} {H H' : MH} {P : α → MH → Prop} {R : β → MH → Prop} {loc : Loc}
theorem Ok.of {x : OM α} {a : α} (e : x H = some (a, H')) (h : P a H') : Ok x H P := ⟨a, H', e, h⟩
theorem Ok.mono {x : OM α} {P' : α → MH → Prop} (h : Ok x H P) (k : ∀ a H', P a H' → P' a H') : Ok x H P' := by obtain ⟨a, H', e, q⟩ := h; exact ⟨a, H', e, k a H' q⟩
theorem Ok.bnd {x : OM α} {f : α → OM β} (h : Ok x H fun a H' => Ok (f a) H' R) : Ok (bnd x f) H R := by
 obtain ⟨a, H₁, e, b, H₂, e', q⟩ := h
 exact ⟨b, H₂, by unfold Mine.bnd; rw [e]; exact e', q⟩
theorem Ok.rt {a : α} (h : P a H) : Ok (rt a) H P := ⟨a, H, rfl, h⟩
end
noncomputable def l0 (n size : Nat) (dv l : List V) : Loc := (l ++ dv).map some ++ List.replicate (size - (n + dv.length)) none
section
variable {α β : Type}
@[reducible] noncomputable def kb (f : α → OM β) (R : β → MH → Prop) : α → MH → Prop := fun a H' => Ok (f a) H' R
@[reducible] noncomputable def k2 (m : V → V → OM V) (g : EM V) (loc : Loc) (P : V → MH → Prop) : V → MH → Prop := fun a H₁ => Ok (g loc) H₁ (kb (m a) P)
@[reducible] noncomputable def kc' (v : V) (LP : List V → MH → Prop) : List V → MH → Prop := fun l H₂ => LP (v :: l) H₂
@[reducible] noncomputable def kc (g : EM (List V)) (loc : Loc) (LP : List V → MH → Prop) : V → MH → Prop := fun v H₁ => Ok (g loc) H₁ (kc' v LP)
@[reducible] noncomputable def kif (f g : Loc → OM α) (loc : Loc) (P : α → MH → Prop) : Bool → MH → Prop := fun b H₁ => if b then Ok (f loc) H₁ P else Ok (g loc) H₁ P
@[reducible] noncomputable def kbv (B : Bool → MH → Prop) : V → MH → Prop := fun v H' => ∃ b, v = .bool b ∧ B b H'
@[reducible] noncomputable def knot (B : Bool → MH → Prop) : Bool → MH → Prop := fun b H' => B (!b) H'
@[reducible] noncomputable def kand (g : EM Bool) (loc : Loc) (B : Bool → MH → Prop) : Bool → MH → Prop := fun b H' => if b then Ok (g loc) H' B else B false H'
@[reducible] noncomputable def kor (g : EM Bool) (loc : Loc) (B : Bool → MH → Prop) : Bool → MH → Prop := fun b H' => if b then B true H' else Ok (g loc) H' B
@[reducible] noncomputable def kseq (g : SM) (T : Fl × Loc → MH → Prop) : Fl × Loc → MH → Prop := fun r H' => match r with | (.next, l) => Ok (g l) H' T | (x, l) => T (x, l) H'
@[reducible] noncomputable def kthen (g : SM) (T : Fl × Loc → MH → Prop) : Fl × Loc → MH → Prop := fun r H' => match r with | (x, l) => x = .next ∧ Ok (g l) H' T
@[reducible] noncomputable def kex (loc : Loc) (T : Fl × Loc → MH → Prop) : V → MH → Prop := fun ξ H' => T (.next, loc) H'
@[reducible] noncomputable def kret (loc : Loc) (T : Fl × Loc → MH → Prop) : V → MH → Prop := fun v H' => T (.ret v, loc) H'
@[reducible] noncomputable def kset (i : Nat) (loc : Loc) (T : Fl × Loc → MH → Prop) : V → MH → Prop := fun v H' => T (.next, loc.set i (some v)) H'
@[reducible] noncomputable def kmth (chk : V → OM V) (m : List V → OM V) (fa : EM (List V)) (loc : Loc) (P : V → MH → Prop) : V → MH → Prop := fun a H₁ => Ok (chk a) H₁ fun ξ H₂ => Ok (fa loc) H₂ fun l H₃ => Ok (m (a :: l)) H₃ P
@[reducible] noncomputable def ksa (K : Addr) (name : Str) (fo : EM V) (loc : Loc) (T : Fl × Loc → MH → Prop) : V → MH → Prop := fun v H₁ => Ok (fo loc) H₁ fun o H₂ => Ok (fY K name o v) H₂ (kex loc T)
@[reducible] noncomputable def ksi (fo fi : EM V) (loc : Loc) (T : Fl × Loc → MH → Prop) : V → MH → Prop := fun v H₁ => Ok (fo loc) H₁ fun o H₂ => Ok (fi loc) H₂ fun i H₃ => Ok (cg o i v) H₃ (kex loc T)
@[reducible] noncomputable def ksp (b : TM) (loc : Loc) (T : Fl × Loc → MH → Prop) : V → MH → Prop := fun v H' => ∃ loc', b v loc = some loc' ∧ T (.next, loc') H'
@[reducible] noncomputable def kfn (P : V → MH → Prop) : Fl × Loc → MH → Prop := fun r H' => match r with | (x, _) => (∃ v, x = .ret v ∧ P v H') ∨ (x = .next ∧ P .none H')
@[reducible] noncomputable def ktup (P : V → MH → Prop) : List V → MH → Prop := fun l H' => l.length ≤ lim ∧ P (.tup l) H'
@[reducible] noncomputable def klst (P : V → MH → Prop) : List V → MH → Prop := fun l H' => l.length ≤ lim ∧ P (.ref H'.length) (H' ++ [.list l])
@[reducible] noncomputable def kfor (b : TM) (g : SM) (loc : Loc) (T : Fl × Loc → MH → Prop) : Src → MH → Prop := fun src H' => Ok (bt src.ok b g src.items loc) H' T
end
section
variable {H H' : MH} {P : V → MH → Prop} {B : Bool → MH → Prop} {T : Fl × Loc → MH → Prop} {LP : List V → MH → Prop} {loc : Loc}
theorem ad {i : Nat} {v : V} (e : loc[i]? = some (some v)) (h : P v H) : Ok (eLoc i loc) H P := ⟨v, H, by unfold eLoc; rw [e], h⟩
theorem ok_C {v : V} (h : P v H) : Ok (eC v loc) H P := ⟨v, H, rfl, h⟩
theorem cA {m : V → OM V} {f : EM V} (h : Ok (f loc) H (kb m P)) : Ok (e1 m f loc) H P := .bnd h
theorem ak {m : V → V → OM V} {f g : EM V} (h : Ok (f loc) H (k2 m g loc P)) : Ok (e2 m f g loc) H P := .bnd (h.mono fun ξ ξ q => .bnd q)
theorem aC {m : List V → OM V} {f : EM (List V)} (h : Ok (f loc) H (kb m P)) : Ok (eL m f loc) H P := .bnd h
theorem ae (h : LP [] H) : Ok (lNil loc) H LP := ⟨[], H, rfl, h⟩
theorem aa {f : EM V} {g : EM (List V)} (h : Ok (f loc) H (kc g loc LP)) : Ok (ac f g loc) H LP := .bnd (h.mono fun ξ ξ q => .bnd (q.mono fun ξ ξ q => .rt q))
theorem bM {c : EM Bool} {f g : EM V} (h : Ok (c loc) H (kif f g loc P)) : Ok (eIf c f g loc) H P := .bnd (h.mono fun b ξ q => by cases b <;> exact q)
theorem bn {chk : V → OM V} {m : List V → OM V} {fo : EM V} {fa : EM (List V)} (h : Ok (fo loc) H (kmth chk m fa loc P)) : Ok (aw chk m fo fa loc) H P :=
 .bnd (h.mono fun ξ ξ q => .bnd (q.mono fun ξ ξ q => .bnd q))
theorem aR {f : EM V} (h : Ok (f loc) H (kbv B)) : Ok (bV f loc) H B := .bnd (h.mono fun v H' q => by obtain ⟨b, rfl, q⟩ := q; exact .rt q)
theorem ok_not {f : EM Bool} (h : Ok (f loc) H (knot B)) : Ok (bNot f loc) H B := .bnd (h.mono fun ξ ξ q => .rt q)
theorem iB {f g : EM Bool} (h : Ok (f loc) H (kand g loc B)) : Ok (bAnd f g loc) H B := .bnd (h.mono fun b ξ q => by cases b; exact .rt q; exact q)
theorem iU {f g : EM Bool} (h : Ok (f loc) H (kor g loc B)) : Ok (bOr f g loc) H B := .bnd (h.mono fun b ξ q => by cases b; exact q; exact .rt q)
theorem c9 {b : Bool} (h : B b H) : Ok ((eC b : EM Bool) loc) H B := ⟨b, H, rfl, h⟩
theorem ag (h : T (.next, loc) H) : Ok (sNil loc) H T := .rt h
theorem aK {f g : SM} (h : Ok (f loc) H (kseq g T)) : Ok (ai f g loc) H T := .bnd (h.mono fun r H' q => by
 obtain ⟨x, l⟩ := r
 cases x with
 | next => exact q
 | brk => exact .rt q
 | cont => exact .rt q
 | ret v => exact .rt q)
theorem af {f g : SM} (h : Ok (f loc) H (kthen g T)) : Ok (ai f g loc) H T := aK (h.mono fun r H' q => by
 obtain ⟨x, l⟩ := r
 obtain ⟨q1, q2⟩ := q
 cases q1
 exact q2)
theorem aq {f : EM V} (h : Ok (f loc) H (kex loc T)) : Ok (aL f loc) H T := .bnd (h.mono fun ξ ξ q => .rt q)
theorem bZ {f : EM V} (h : Ok (f loc) H (kret loc T)) : Ok (sRet f loc) H T := .bnd (h.mono fun ξ ξ q => .rt q)
theorem fT (h : T (.ret .none, loc) H) : Ok (iR loc) H T := .rt h
theorem nS (h : T (.cont, loc) H) : Ok (sCont loc) H T := .rt h
theorem aD {c : EM Bool} {f g : SM} (h : Ok (c loc) H (kif f g loc T)) : Ok (sIf c f g loc) H T := .bnd (h.mono fun b ξ q => by cases b <;> exact q)
theorem aO {i : Nat} {f : EM V} (h : Ok (f loc) H (kset i loc T)) : Ok (sSet i f loc) H T := .bnd (h.mono fun ξ ξ q => .rt q)
theorem aW {K : Addr} {name : Str} {fo fv : EM V} (h : Ok (fv loc) H (ksa K name fo loc T)) : Ok (ba K name fo fv loc) H T :=
 .bnd (h.mono fun ξ ξ q => .bnd (q.mono fun ξ ξ q => .bnd (q.mono fun ξ ξ q => .rt q)))
theorem bi {fo fi fv : EM V} (h : Ok (fv loc) H (ksi fo fi loc T)) : Ok (bI fo fi fv loc) H T :=
 .bnd (h.mono fun ξ ξ q => .bnd (q.mono fun ξ ξ q => .bnd (q.mono fun ξ ξ q => .bnd (q.mono fun ξ ξ q => .rt q))))
theorem en {b : TM} {f : EM V} (h : Ok (f loc) H (ksp b loc T)) : Ok (fN b f loc) H T := by
 obtain ⟨v, H', e, loc', e', q⟩ := h
 exact ⟨_, H', by unfold fN Mine.bnd; rw [e]; dsimp only; rw [e'], q⟩
theorem a9 {n size : Nat} {dv : List V} {g : SM} {l : List V} (hn : l.length = n) (h : Ok (g (l0 n size dv l)) H (kfn P)) : Ok (mFn n size dv g l) H P := by
 obtain ⟨⟨x, l'⟩, H', e, q⟩ := h
 unfold mFn
 unfold l0 at e
 rcases q with ⟨v, q1, q⟩ | ⟨q1, q⟩
 ·obtain rfl : x = .ret v := q1
  exact ⟨v, H', by simp only [hn, if_true, e], q⟩
 ·obtain rfl : x = .next := q1
  exact ⟨.none, H', by simp only [hn, if_true, e], q⟩
theorem aB {f : EM (List V)} (h : Ok (f loc) H (ktup P)) : Ok (av f loc) H P := .bnd (h.mono fun l H' q => ⟨_, _, if_pos q.1, q.2⟩)
theorem aF {f : EM (List V)} (h : Ok (f loc) H (klst P)) : Ok (am f loc) H P := .bnd (h.mono fun l H' q => ⟨_, _, if_pos q.1, q.2⟩)
theorem cq (h : P (.ref H.length) (H ++ [.dict [] 0])) : Ok (ch loc) H P := ⟨_, _, rfl, h⟩
@[reducible] noncomputable def kfl (I : Loc → MH → Prop) : Fl × Loc → MH → Prop := fun x H' => (x.1 = .next ∨ x.1 = .cont) ∧ I x.2 H'
@[reducible] noncomputable def kwl (I : Nat → Loc → MH → Prop) (n : Nat) : Loc → MH → Prop := fun l H' => ∃ m, m < n ∧ I m l H'
@[reducible] noncomputable def kwh (g : SM) (I : Loc → MH → Prop) (loc : Loc) (T : Fl × Loc → MH → Prop) : Bool → MH → Prop := fun b H₁ => if b then Ok (g loc) H₁ (kfl I) else T (.next, loc) H₁
@[reducible] noncomputable def kcx {β : Type} (mk : β → Loc) (J : MH → Prop) : Loc → MH → Prop := fun l H' => (∃ y', l = mk y') ∧ J H'
@[reducible] noncomputable def kcl (g : CM) (I : Loc → MH → Prop) (loc : Loc) : Bool → MH → Prop := fun x H₁ => if x then Ok (g loc) H₁ I else I loc H₁
theorem qe {ok : MH → Prop} {b : TM} {g : SM} {v : V} {r : List V} {loc loc₁ : Loc} {H : MH} (hok : ok H) (hb : b v loc = some loc₁) (h : Ok (g loc₁) H (kfl fun l H' => Ok (bt ok b g r l) H' T)) : Ok (bt ok b g (v :: r) loc) H T := by
 obtain ⟨⟨x, l⟩, H', e, hx, a, H'', e2, q⟩ := h
 refine ⟨a, H'', ?_, q⟩
 rw [ge, if_pos hok, hb]
 dsimp only
 rw [e]
 rcases hx with hx | hx
 ·obtain rfl : x = .next := hx
  exact e2
 ·obtain rfl : x = .cont := hx
  exact e2
theorem qd {ok : MH → Prop} {b : TM} {g : SM} (I : List V → Loc → MH → Prop) (l : List V) : ∀ (loc : Loc) (H : MH), I l loc H →
  (∀ v r loc H, I (v :: r) loc H → ok H ∧ ∃ loc₁, b v loc = some loc₁ ∧ Ok (g loc₁) H (kfl (I r))) → (∀ loc H, I [] loc H → ok H ∧ T (.next, loc) H) → Ok (bt ok b g l loc) H T := by
 induction l with
 | nil => intro loc H hI ξ hE; exact ⟨_, H, by rw [fO, if_pos (hE loc H hI).1], (hE loc H hI).2⟩
 | cons v r ih =>
  intro loc H hI hS hE
  obtain ⟨hok, loc₁, hb, q⟩ := hS v r loc H hI
  exact qe hok hb (q.mono fun x H' q => ⟨q.1, ih _ _ q.2 hS hE⟩)
@[reducible] noncomputable def kfx {β : Type} (mk : β → Loc) (J : MH → Prop) : Fl × Loc → MH → Prop := fun r H' => (r.1 = .next ∨ r.1 = .cont) ∧ (∃ y', r.2 = mk y') ∧ J H'
theorem cj {α β : Type} {val : α → V} {mk : β → Loc} {ok : MH → Prop} {b : TM} {g : SM} {xs : List α} {H : MH} (J : List α → MH → Prop) (hok : ∀ ds H, J ds H → ok H)
  (body : ∀ ds x rs y H, xs = ds ++ x :: rs → J ds H → ∃ l₁, b (val x) (mk y) = some l₁ ∧ Ok (g l₁) H (kfx mk (J (ds ++ [x])))) (y : β) (h0 : J [] H) (h : ∀ y' H', J xs H' → T (.next, mk y') H') : Ok (bt ok b g (xs.map val) (mk y)) H T := by
 have key : ∀ (rs ds : List α) (y : β) (H : MH), xs = ds ++ rs → J ds H → Ok (bt ok b g (rs.map val) (mk y)) H T := by
  intro rs; induction rs with
  | nil =>
   intro ds y H e j
   rw [List.append_nil] at e
   rw [e] at h
   exact ⟨_, H, by rw [List.map_nil, fO, if_pos (hok _ H j)], h y H j⟩
  | cons x rs ih =>
   intro ds y H e j
   obtain ⟨l₁, eb, q⟩ := body ds x rs y H e j
   rw [List.map_cons]
   refine qe (hok ds H j) eb (q.mono fun r H' q => ⟨q.1, ?_⟩)
   obtain ⟨ξ, ⟨y', e'⟩, j'⟩ := q
   rw [e']
   exact ih (ds ++ [x]) y' H' (by rw [e, List.append_assoc]; rfl) j'
 exact key xs [] y H rfl h0
theorem b5 {it : EM Src} {b : TM} {g : SM} (h : Ok (it loc) H (kfor b g loc T)) : Ok (sFor it b g loc) H T := .bnd h
theorem kA {c : EM Bool} {g : SM} (I : Nat → Loc → MH → Prop) (hS : ∀ n loc H, I n loc H → Ok (c loc) H (kwh g (kwl I n) loc T)) :
  ∀ (n : Nat) (loc : Loc) (H : MH), I n loc H → Ok (eZ c g loc) H T := by
 have key : ∀ (n : Nat) (loc : Loc) (H : MH), I n loc H → ∃ k, Ok (ci c g k loc) H T := by
  intro n
  induction n using Nat.strongRecOn with
  | ind n ih =>
   intro loc H hI
   obtain ⟨b, H₁, e₁, q⟩ := hS n loc H hI
   cases b with
   | false => exact ⟨1, _, H₁, by rw [g8]; unfold Mine.bnd; rw [e₁]; rfl, q⟩
   | true =>
    obtain ⟨⟨x, loc₂⟩, H₂, e₂, hx, m, hm, hI'⟩ := q
    obtain ⟨k, y, H₃, e₃, q'⟩ := ih m hm loc₂ H₂ hI'
    refine ⟨k + 1, y, H₃, ?_, q'⟩
    rw [g8]
    unfold Mine.bnd
    rw [e₁]
    dsimp only
    rw [if_pos rfl, e₂]
    rcases hx with hx | hx
    ·obtain rfl : x = .next := hx
     exact e₃
    ·obtain rfl : x = .cont := hx
     exact e₃
 intro n loc H hI
 obtain ⟨k, y, H', e, q⟩ := key n loc H hI
 exact ⟨y, H', qT e, q⟩
theorem jv {α β : Type} {val : α → V} {mk : β → Loc} {CP : Loc → MH → Prop} {ok : MH → Prop} {b : TM} {t : EM Bool} {g : CM} {xs : List α} {H : MH} (J : List α → MH → Prop) (hok : ∀ ds H, J ds H → ok H)
  (body : ∀ ds x rs y H, xs = ds ++ x :: rs → J ds H → ∃ l₁, b (val x) (mk y) = some l₁ ∧ Ok (t l₁) H (kcl g (kcx mk (J (ds ++ [x]))) l₁)) (y : β) (h0 : J [] H) (h : ∀ y' H', J xs H' → CP (mk y') H') : Ok (cu ok b t g (xs.map val) (mk y)) H CP := by
 have key : ∀ (rs ds : List α) (y : β) (H : MH), xs = ds ++ rs → J ds H → Ok (cu ok b t g (rs.map val) (mk y)) H CP := by
  intro rs; induction rs with
  | nil =>
   intro ds y H e j
   rw [List.append_nil] at e
   rw [e] at h
   exact ⟨_, H, by rw [List.map_nil, ic, if_pos (hok _ H j)], h y H j⟩
  | cons x rs ih =>
   intro ds y H e j
   obtain ⟨l₁, eb, c, H₁, e₁, q⟩ := body ds x rs y H e j
   have nx : ∀ {l H'}, kcx mk (J (ds ++ [x])) l H' → Ok (cu ok b t g (rs.map val) l) H' CP := fun q => by
    obtain ⟨⟨y', e'⟩, j'⟩ := q
    rw [e']
    exact ih (ds ++ [x]) y' _ (by rw [e, List.append_assoc]; rfl) j'
   cases c with
   | true =>
    obtain ⟨l₂, H₂, e₂, q⟩ := q
    obtain ⟨z, H₃, e₃, q⟩ := nx q
    refine ⟨z, H₃, ?_, q⟩
    rw [List.map_cons, d5, if_pos (hok _ H j), eb]
    dsimp only
    rw [e₁]
    dsimp only
    rw [e₂]
    exact e₃
   | false =>
    obtain ⟨z, H₃, e₃, q⟩ := nx q
    refine ⟨z, H₃, ?_, q⟩
    rw [List.map_cons, d5, if_pos (hok _ H j), eb]
    dsimp only
    rw [e₁]
    exact e₃
 exact key xs [] y H rfl h0
theorem hK {it : EM Src} {cap : List (Option Nat)} {b : TM} {t : EM Bool} {g : Nat → CM} (h : Ok (it loc) H fun src H' => Ok (cu src.ok b t (g H'.length) src.items (fp cap loc)) (H' ++ [.list []]) fun ξ H₂ => P (.ref H'.length) H₂) : Ok (cQ it cap b t g loc) H P := by
 obtain ⟨src, H', e, l', H₂, e₂, q⟩ := h
 exact ⟨_, H₂, by unfold cQ Mine.bnd; rw [e]; dsimp only; rw [e₂], q⟩
theorem fV {f : EM V} {acc : Nat} {CP : Loc → MH → Prop} (h : Ok (f loc) H fun v H' => ∃ xs, H'[acc]? = some (.list xs) ∧ xs.length < lim ∧ CP loc (H'.set acc (.list (xs ++ [v])))) : Ok (cS f acc loc) H CP := by
 obtain ⟨v, H', e, xs, h1, h2, q⟩ := h
 exact ⟨_, _, by unfold cS Mine.bnd; rw [e]; dsimp only; rw [h1]; dsimp only; rw [if_pos h2], q⟩
theorem bK {f : EM V} {SP : Src → MH → Prop} (h : Ok (f loc) H (kb i4 SP)) : Ok (itV f loc) H SP := .bnd h
theorem iz {m : List V → OM Src} {f : EM (List V)} {SP : Src → MH → Prop} (h : Ok (f loc) H (kb m SP)) : Ok (itL m f loc) H SP := .bnd h
theorem bh {SP : Src → MH → Prop} {l : Nat} {xs : List V} (e : H[l]? = some (.list xs)) (h : SP (.list l xs) H) : Ok (i4 (.ref l)) H SP := ⟨_, H, by unfold i4; simp only [e], h⟩
theorem dE {SP : Src → MH → Prop} {l n : Nat} {es : List (Key × V)} (e : H[l]? = some (.dict es n)) (h : SP (.dict l es n) H) : Ok (i4 (.ref l)) H SP := ⟨_, H, by unfold i4; simp only [e], h⟩
end
noncomputable def Gro (W : Nat → Prop) (H H' : MH) : Prop := H.length ≤ H'.length ∧ ∀ i m, H[i]? = some m → ¬ W i → H'[i]? = some m
theorem Gro.refl {W : Nat → Prop} {H : MH} : Gro W H H := ⟨Nat.le_refl _, fun ξ ξ e ξ => e⟩
theorem Gro.trans {W : Nat → Prop} {H H' H'' : MH} (a : Gro W H H') (b : Gro W H' H'') : Gro W H H'' := ⟨Nat.le_trans a.1 b.1, fun i m e n => b.2 i m (a.2 i m e n) n⟩
theorem Gro.mono {W W' : Nat → Prop} {H H' : MH} (a : Gro W H H') (k : ∀ i, W i → i < H.length → W' i) : Gro W' H H' := ⟨a.1, fun i m e n => a.2 i m e fun q => n (k i q (List.getElem?_eq_some_iff.mp e).1)⟩
theorem Gro.app {W : Nat → Prop} {H t : MH} : Gro W H (H ++ t) := ⟨by simp, fun i m e ξ => bu e⟩
theorem Gro.set {W : Nat → Prop} {H : MH} {l : Nat} {m : MObj} (h : W l) : Gro W H (H.set l m) := ⟨by simp, fun i x e n => by rw [List.getElem?_set_ne (fun q => n (by rw [← q]; exact h))]; exact e⟩
theorem Gro.lt {W : Nat → Prop} {H H' : MH} (a : Gro W H H') {i : Nat} (h : i < H.length) : i < H'.length := Nat.lt_of_lt_of_le h a.1
theorem bA {H : MH} {i : Nat} {m : MObj} (e : H[i]? = some m) : i < H.length := (List.getElem?_eq_some_iff.mp e).1
theorem aj {H : MH} {m : MObj} : (H ++ [m])[H.length]? = some m := by simp
theorem cD {H : MH} {l : Nat} {m x : MObj} (e : H[l]? = some x) : (H.set l m)[l]? = some m := List.getElem?_set_self (bA e)
theorem IsD.gro {W : Nat → Prop} {H H' : MH} {l : Nat} {es : List (Key × V)} (x : IsD H l es) (g : Gro W H H') (n : ¬ W l) : IsD H' l es := by obtain ⟨k, e⟩ := x; exact ⟨k, g.2 _ _ e n⟩
theorem gf {H : MH} {l : Nat} {es es' : List (Key × V)} (x : IsD H l es) : IsD (putD H l es') l es' := by obtain ⟨k, e⟩ := x; exact ⟨_, cD e⟩
theorem nH {W : Nat → Prop} {H : MH} {l : Nat} {es : List (Key × V)} (h : W l) : Gro W H (putD H l es) := Gro.set h
theorem IsD.lt {H : MH} {l : Nat} {es : List (Key × V)} (x : IsD H l es) : l < H.length := by obtain ⟨ξ, e⟩ := x; exact bA e
section
variable {H H' : MH} {P : V → MH → Prop}
theorem bE {K : Addr} {name : Str} {l d : Nat} {ns : List (Str × V)} {v : V} (e1 : H[l]? = some (.inst K d)) (e2 : H[d]? = some (.ns ns)) (e3 : nget ns name = some v) (e4 : v.isRaw = false) (h : P v H) : Ok (aG K name (.ref l)) H P := by
 refine ⟨v, H, ?_, h⟩
 unfold aG
 rw [jG e1 e2]
 rw [e3]
 dsimp only
 rw [e4] <;> rfl
theorem n4 {K : Addr} {name : Str} {l d : Nat} {ns : List (Str × V)} (e1 : H[l]? = some (.inst K d)) (e2 : H[d]? = some (.ns ns)) (e3 : nget ns name = none) (h : P (.ref l) H) : Ok (au K name (.ref l)) H P := by
 refine ⟨_, H, ?_, h⟩
 unfold au
 rw [jG e1 e2]
 rw [e3] <;> rfl
theorem kD {K : Addr} {name : Str} {l d : Nat} {ns : List (Str × V)} {v : V} (e1 : H[l]? = some (.inst K d)) (e2 : H[d]? = some (.ns ns)) (e3 : ns.length ≤ 100) (h : P .none (H.set d (.ns (nput ns name v)))) : Ok (fY K name (.ref l) v) H P := by
 refine ⟨_, _, ?_, h⟩
 unfold fY
 rw [jG e1 e2]
 exact if_pos e3
theorem b8 {l : Nat} {es : List (Key × V)} (e : IsD H l es) (h : P (.ref l) H) : Ok (eM (.ref l)) H P := by
 obtain ⟨n, e⟩ := e
 refine ⟨_, H, ?_, h⟩
 unfold eM
 rw [dC e] <;> rfl
theorem gH {l : Nat} {xs : List V} (e : H[l]? = some (.list xs)) (h : P (.ref l) H) : Ok (im (.ref l)) H P := by
 refine ⟨_, H, ?_, h⟩
 unfold im
 rw [cY e] <;> rfl
theorem pr {neg : Bool} {l : Nat} {es : List (Key × V)} {v : V} {k : Key} (e : IsD H l es) (hk : v.key? = some k) (ho : fc es k = true) (h : P (.bool (neg.xor (dget es k).isSome)) H) : Ok (mIn neg v (.ref l)) H P := by
 obtain ⟨n, e⟩ := e
 refine ⟨_, H, ?_, h⟩
 unfold mIn
 dsimp only
 rw [e]
 dsimp only
 rw [hk]
 exact if_pos ho
theorem kN {neg : Bool} {l : Nat} {xs : List V} {v : V} {k : Key} {ks : List Key} (e : H[l]? = some (.list xs)) (hx : bz xs = some ks) (hk : v.key? = some k) (ho : k.ok = true) (h : P (.bool (neg.xor (ks.contains k))) H) : Ok (mIn neg v (.ref l)) H P := by
 refine ⟨_, H, ?_, h⟩
 unfold mIn
 dsimp only
 rw [e]
 dsimp only
 rw [hk, hx]
 exact if_pos ho
theorem gE {l : Nat} {es : List (Key × V)} {kv v : V} {k : Key} (e : IsD H l es) (hk : kv.key? = some k) (ho : fc es k = true) (hl : es.length ≤ lim) (h : P .none (putD H l (dput es k v))) : Ok (cg (.ref l) kv v) H P := by
 obtain ⟨n, e⟩ := e
 refine ⟨_, _, ?_, h⟩
 unfold cg
 dsimp only
 rw [e]
 dsimp only
 unfold eB
 rw [dC e]
 rw [hk]
 exact if_pos (by rw [ho, decide_eq_true hl]; rfl)
theorem iA {l : Nat} {es : List (Key × V)} {kv d : V} {p : Prim} (e : IsD H l es) (hk : kv.prim? = some p) (ho : allP es = true) (h : P ((dget es (.p p)).getD d) H) : Ok (mGet [.ref l, kv, d]) H P := by
 obtain ⟨n, e⟩ := e
 refine ⟨_, H, ?_, h⟩
 show kZ d (.ref l) kv H = _
 unfold kZ
 rw [dC e]
 rw [hk]
 exact if_pos ho
theorem qc {l : Nat} {es : List (Key × V)} {kv : V} {p : Prim} (e : IsD H l es) (hk : kv.prim? = some p) (ho : allP es = true) (h : P ((dget es (.p p)).getD .none) H) : Ok (mGet [.ref l, kv]) H P := by
 obtain ⟨n, e⟩ := e
 refine ⟨_, H, ?_, h⟩
 show kZ .none (.ref l) kv H = _
 unfold kZ
 rw [dC e]
 rw [hk]
 exact if_pos ho
theorem jt {l : Nat} {es : List (Key × V)} {kv d : V} {p : Prim} (e : IsD H l es) (hk : kv.prim? = some p) (ho : allP es = true) (hl : es.length ≤ lim) (h1 : ∀ v, dget es (.p p) = some v → P v H) (h2 : dget es (.p p) = none → P d (putD H l (dput es (.p p) d))) : Ok (d8 [.ref l, kv, d]) H P := by
 obtain ⟨n, e⟩ := e
 cases hg : dget es (.p p) with
 | some v =>
  refine ⟨v, H, ?_, h1 v hg⟩
  unfold d8
  dsimp only
  rw [dC e]
  rw [hk]
  dsimp only
  rw [if_pos (by rw [ho, decide_eq_true hl]; rfl), hg]
 | none =>
  refine ⟨d, _, ?_, h2 hg⟩
  unfold d8
  dsimp only
  rw [dC e]
  rw [hk]
  dsimp only
  rw [if_pos (by rw [ho, decide_eq_true hl]; rfl), hg]
theorem bw {l : Nat} {es : List (Key × V)} {kv v : V} {p : Prim} (e : IsD H l es) (hk : kv.prim? = some p) (ho : allP es = true) (hv : dget es (.p p) = some v) (h : P v H) : Ok (ah (.ref l) kv) H P := by
 obtain ⟨n, e⟩ := e
 refine ⟨v, H, ?_, h⟩
 unfold ah
 dsimp only
 rw [e]
 dsimp only
 unfold mGetP
 rw [dC e]
 rw [hk]
 dsimp only
 rw [if_pos ho, hv] <;> rfl
theorem bB {xs : List V} {i : Nat} {v : V} (hi : i < 1000000) (hv : xs[i]? = some v) (h : P v H) : Ok (ah (.tup xs) (.int (i : Int))) H P := by
 refine ⟨v, H, ?_, h⟩
 unfold ah
 have : (0 : Int) ≤ (i : Int) ∧ (i : Int) < 1000000 := ⟨by omega, by omega⟩
 dsimp only
 rw [if_pos this, Int.toNat_natCast, hv] <;> rfl
theorem b7 {l i : Nat} {xs : List V} {v : V} (e : H[l]? = some (.list xs)) (hi : i < 1000000) (hv : xs[i]? = some v) (h : P v H) : Ok (ah (.ref l) (.int (i : Int))) H P := by
 refine ⟨v, H, ?_, h⟩
 unfold ah
 have : (0 : Int) ≤ (i : Int) ∧ (i : Int) < 1000000 := ⟨by omega, by omega⟩
 dsimp only
 rw [e]
 dsimp only
 rw [if_pos this, Int.toNat_natCast, hv] <;> rfl
theorem jX {l : Nat} {xs : List V} (e : H[l]? = some (.list xs)) (hl : xs.length ≤ lim) (h : P (.ref H.length) (H ++ [.list xs])) : Ok (eG [.ref l]) H P := ⟨_, _, by unfold eG; dsimp only; rw [e]; exact if_pos hl, h⟩
theorem pn {l : Nat} {es : List (Key × V)} (e : IsD H l es) (hl : es.length ≤ lim) (h : P (.ref H.length) (H ++ [.list (es.map fun e => .ofKey e.1)])) : Ok (eG [.ref l]) H P := by
 obtain ⟨n, e⟩ := e
 exact ⟨_, _, by unfold eG; dsimp only; rw [e]; exact if_pos hl, h⟩
theorem lZ {l : Nat} {xs : List V} {v : V} (e : H[l]? = some (.list xs)) (hl : xs.length < lim) (h : P .none (H.set l (.list (xs ++ [v])))) : Ok (eS [.ref l, v]) H P := ⟨_, _, by unfold eS; dsimp only; rw [cY e]; exact if_pos hl, h⟩
theorem lY {l m : Nat} {xs ys : List V} (e : H[l]? = some (.list xs)) (e' : H[m]? = some (.list ys)) (hl : xs.length + ys.length ≤ lim) (h : P .none (H.set l (.list (xs ++ ys)))) : Ok (hZ [.ref l, .ref m]) H P := ⟨_, _, by unfold hZ; dsimp only; rw [cY e]; rw [cY e']; exact if_pos hl, h⟩
theorem ok_pop {l : Nat} {xs : List V} {v : V} (e : H[l]? = some (.list xs)) (hv : xs.getLast? = some v) (hl : xs.length ≤ lim) (h : P v (H.set l (.list xs.dropLast))) : Ok (mPop [.ref l]) H P := ⟨_, _, by unfold mPop; dsimp only; rw [cY e]; rw [hv]; exact if_pos hl, h⟩
theorem fA {l m : Nat} {xs ys : List V} (e : H[l]? = some (.list xs)) (e' : H[m]? = some (.list ys)) (hl : xs.length + ys.length ≤ lim) (h : P (.ref H.length) (H ++ [.list (xs ++ ys)])) : Ok (mAdd (.ref l) (.ref m)) H P := by
 refine ⟨_, _, ?_, h⟩
 unfold mAdd
 dsimp only
 rw [cY e]
 rw [cY e']
 exact if_pos hl
theorem dG {i j : Int} (h : P (.int (i + j)) H) : Ok (mAdd (.int i) (.int j)) H P := ⟨_, H, by unfold mAdd i2; rfl, h⟩
theorem pu {neg : Bool} {a b : V} {k k' : Key} (ha : a.key? = some k) (hb : b.key? = some k') (oa : k.ok = true) (ob : k'.ok = true) (na : ∀ l, a ≠ .ref l) (nb : ∀ l, b ≠ .ref l) (h : P (.bool (neg.xor (decide (k = k')))) H) : Ok (mEqB neg a b) H P := by
 refine ⟨_, H, ?_, h⟩
 have key : ∀ (x : V) (q : Key), x.key? = some q → q.ok = true → (∀ l, x ≠ .ref l) → x.dt H = some (.key q) := fun x q hx hq hn => by
  cases x with
  | int i => show gK (.int i) = _; unfold gK; rw [hx]; exact if_pos hq
  | str i => show gK (.str i) = _; unfold gK; rw [hx]; exact if_pos hq
  | tup i => show gK (.tup i) = _; unfold gK; rw [hx]; exact if_pos hq
  | ref l => exact absurd rfl (hn l)
  | none => cases hx
  | bool b => cases hx
  | raw v => cases hx
 unfold mEqB
 rw [key a k ha oa na, key b k' hb ob nb]
 simp only [Dt.key.injEq]
theorem ok_eqL {neg : Bool} {l m : Nat} {xs ys : List V} {ks js : List Key} (e : H[l]? = some (.list xs)) (e' : H[m]? = some (.list ys)) (hx : bz xs = some ks) (hy : bz ys = some js) (h : P (.bool (neg.xor (decide (ks = js)))) H) : Ok (mEqB neg (.ref l) (.ref m)) H P := by
 refine ⟨_, H, ?_, h⟩
 unfold mEqB
 have a : V.dt H (.ref l) = some (.list ks) := by show mZ H[l]? = _; rw [e]; show (bz xs).map Dt.list = _; rw [hx] <;> rfl
 have b : V.dt H (.ref m) = some (.list js) := by show mZ H[m]? = _; rw [e']; show (bz ys).map Dt.list = _; rw [hy] <;> rfl
 rw [a, b]
 simp only [Dt.list.injEq]
theorem cU {l : Nat} {xs : List V} (e : H[l]? = some (.list xs)) (hl : xs.length ≤ lim) (h : P (.int xs.length) H) : Ok (mLen [.ref l]) H P := ⟨_, H, by unfold mLen; dsimp only; rw [e]; exact if_pos hl, h⟩
theorem jY {l : Nat} {es : List (Key × V)} (e : IsD H l es) (hl : es.length ≤ lim) (h : P (.int es.length) H) : Ok (mLen [.ref l]) H P := by
 obtain ⟨n, e⟩ := e
 exact ⟨_, H, by unfold mLen; dsimp only; rw [e]; exact if_pos hl, h⟩
theorem kM {neg : Bool} {a : V} {t : Bool} (ha : a.isNone = some t) (h : P (.bool (neg.xor t)) H) : Ok (mIs neg a .none) H P := ⟨_, H, by unfold mIs; dsimp only; rw [ha] <;> rfl, h⟩
theorem kF {i j : Int} (h : P (.bool (decide (i < j))) H) : Ok (mLt (.int i) (.int j)) H P := ⟨_, H, rfl, h⟩
theorem lU {i j : Int} (h : P (.bool (decide (i ≤ j))) H) : Ok (mLe (.int i) (.int j)) H P := ⟨_, H, rfl, h⟩
theorem ok_gt {i j : Int} (h : P (.bool (decide (i > j))) H) : Ok (mGt (.int i) (.int j)) H P := ⟨_, H, rfl, h⟩
theorem ok_ge {i j : Int} (h : P (.bool (decide (i ≥ j))) H) : Ok (mGe (.int i) (.int j)) H P := ⟨_, H, rfl, h⟩
end
inductive Site where
 | a | b | c | d
inductive Tk where
 | out (o : Bool)
 | site (s : Site)
 | beyond
inductive Fact where
 | held (r : Fin 8) (t : Tk)
 | ins (s : Site) (t : Tk)
 | gone (s : Site)
 | leak (o : Bool)
 | kept (i : Option Bool) (o : Bool)
inductive Cont where
 | held (r : Fin 8)
 | ins (s : Site)
 | gone
 | leaks
 | kept
noncomputable abbrev St := Fact → Prop
noncomputable def St.le (S T : St) : Prop := ∀ f, S f → T f
noncomputable def oi (o : Bool) : Int := if o then 1 else 0
noncomputable def Site.str : Site → Str
 | .a => "a"
 | .b => "b"
 | .c => "c"
 | .d => "d"
noncomputable def Tk.v : Tk → V
 | .out o => .tup [.str "outer", .int (oi o)]
 | .site s => .tup [.str "site", .str s.str]
 | .beyond => .tup [.str "beyond"]
noncomputable def Tk.key : Tk → Key
 | .out o => .t [.str "outer", .int (oi o)]
 | .site s => .t [.str "site", .str s.str]
 | .beyond => .t [.str "beyond"]
noncomputable def ii : Option Bool → Int
 | some o => oi o
 | none => -1
noncomputable def Fact.key : Fact → Key
 | .held _ t => t.key
 | .ins _ t => t.key
 | .gone s => .p (.str s.str)
 | .leak o => .p (.int (oi o))
 | .kept i o => .t [.int (ii i), .int (oi o)]
noncomputable def Fact.cont : Fact → Cont
 | .held r _ => .held r
 | .ins s _ => .ins s
 | .gone _ => .gone
 | .leak _ => .leaks
 | .kept _ _ => .kept
theorem Site.str_inj {s t : Site} (h : s.str = t.str) : s = t := by
 cases s <;> cases t <;> first | rfl | exact absurd h (by decide)
theorem kS {o p : Bool} (h : oi o = oi p) : o = p := by
 cases o <;> cases p <;> first | rfl | exact absurd h (by decide)
theorem ii_inj {o p : Option Bool} (h : ii o = ii p) : o = p := by
 rcases o with _ | (_ | _) <;> rcases p with _ | (_ | _) <;> first | rfl | exact absurd h (by decide)
theorem Tk.key_inj {t u : Tk} (h : t.key = u.key) : t = u := by
 cases t <;> cases u <;> simp only [Tk.key, Key.t.injEq, List.cons.injEq, Prim.str.injEq, Prim.int.injEq, and_true, true_and, reduceCtorEq, and_false, false_and] at h
 ·rw [kS h]
 ·rw [Site.str_inj h]
 ·rfl
theorem Fact.key_inj {f g : Fact} (hc : f.cont = g.cont) (h : f.key = g.key) : f = g := by
 cases f <;> cases g <;> simp only [Fact.cont, reduceCtorEq, Cont.held.injEq, Cont.ins.injEq] at hc <;> simp only [Fact.key, Key.p.injEq, Key.t.injEq, Prim.str.injEq, Prim.int.injEq, List.cons.injEq, and_true] at h
 ·rw [hc, Tk.key_inj h]
 ·rw [hc, Tk.key_inj h]
 ·rw [Site.str_inj h]
 ·rw [kS h]
 ·rw [ii_inj h.1, kS h.2]
theorem Tk.v_key (t : Tk) : t.v.key? = some t.key := by cases t <;> rfl
theorem Tk.of_key (t : Tk) : V.ofKey t.key = t.v := by cases t <;> rfl
theorem Tk.key_ok (t : Tk) : t.key.ok = true := by
 rcases t with (_ | _) | (_ | _ | _ | _) | _ <;> decide +kernel
theorem Tk.key_t (t : Tk) : t.key.isP = false := by cases t <;> rfl
theorem Fact.key_ok (f : Fact) : f.key.ok = true := by
 cases f with
 | held r t => exact t.key_ok
 | ins s t => exact t.key_ok
 | gone s => cases s <;> decide +kernel
 | leak o => cases o <;> decide +kernel
 | kept i o => rcases i with _ | (_ | _) <;> cases o <;> decide +kernel
theorem hV (k : Key) : (V.ofKey k).key? = some k := by
 have h : ∀ ps : List Prim, dj (ps.map .ofPrim) = some ps := by
  intro ps
  induction ps with
  | nil => rfl
  | cons p ps ih => unfold List.map dj; rw [ih]; cases p <;> rfl
 cases k with
 | p x => cases x <;> rfl
 | t l => show (dj (l.map .ofPrim)).map Key.t = _; rw [h]; rfl
structure Doing (C : St → Prop) (S T : St) : Prop where
 le : ∀ f, S f → T f
 snd : ∀ τ : St, (∀ f, S f → τ f) → C τ → ∀ f, T f → τ f
 fix : T = S → C S
theorem St.ext {S T : St} (h : ∀ f, S f ↔ T f) : S = T := funext fun f => propext (h f)
theorem Doing.refl {C : St → Prop} {S : St} (h : C S) : Doing C S S := ⟨fun ξ x => x, fun τ h ξ => h, fun ξ => h⟩
theorem Doing.trans {C D E : St → Prop} {S T U : St} (a : Doing C S T) (b : Doing D T U) (h1 : ∀ τ : St, (∀ f, S f → τ f) → E τ → C τ ∧ D τ) (h2 : C S → D S → E S) : Doing E S U := by
 refine ⟨fun f x => b.le f (a.le f x), fun τ hs he => ?_, fun e => ?_⟩
 ·obtain ⟨hc, hd⟩ := h1 τ hs he
  exact b.snd τ (a.snd τ hs hc) hd
 ·have e1 : T = S := St.ext fun f => ⟨fun x => by rw [← e]; exact b.le f x, a.le f⟩
  have e2 : U = T := by rw [e, e1]
  exact h2 (a.fix e1) (by have := b.fix e2; rw [e1] at this; exact this)
theorem Doing.conv {C D : St → Prop} {S T : St} (a : Doing C S T) (h1 : ∀ τ : St, (∀ f, S f → τ f) → D τ → C τ) (h2 : C S → D S) : Doing D S T := ⟨a.le, fun τ hs hd => a.snd τ hs (h1 τ hs hd), fun e => h2 (a.fix e)⟩
theorem Doing.and {C D : St → Prop} {S T U : St} (a : Doing C S T) (b : Doing D T U) : Doing (fun τ => C τ ∧ D τ) S U := a.trans b (fun ξ ξ h => h) fun c d => ⟨c, d⟩
theorem Doing.none {S : St} : Doing (fun ξ => True) S S := .refl trivial
noncomputable def St.add (S : St) (f : Fact) : St := fun g => S g ∨ g = f
theorem Doing.add {S : St} {f : Fact} : Doing (fun τ => τ f) S (S.add f) := ⟨fun ξ h => .inl h, fun τ hs hf g hg => by
 rcases hg with hg | rfl
 ·exact hs g hg
 ·exact hf, fun e => by have : (S.add f) f := .inr rfl; rw [e] at this; exact this⟩
theorem Doing.same {C : St → Prop} {S T U : St} (a : ∀ τ : St, (∀ f, S f → τ f) → C τ → ∀ f, T f → τ f) (ca : C T) (sa : ∀ f, S f → T f) (b : ∀ τ : St, (∀ f, S f → τ f) → C τ → ∀ f, U f → τ f) (cb : C U) (sb : ∀ f, S f → U f) : T = U :=
 St.ext fun f => ⟨a U sb cb f, b T sa ca f⟩
noncomputable def unin : Option Bool → Tk
 | some o => .out o
 | none => .beyond
noncomputable def Tk.inn : Tk → Option Bool
 | .out o => some o
 | _ => none
noncomputable def load (S : St) : Tk → Tk → Prop
 | .out o, u => ∃ i, S (.kept i o) ∧ u = unin i
 | .site s, u => S (.ins s u) ∨ (u = .beyond ∧ S (.gone s))
 | .beyond, _ => False
inductive Reach (S : St) (X : Tk → Prop) : Tk → Prop where
 | base {t : Tk} : X t → Reach S X t
 | step {t u : Tk} : Reach S X t → load S t u → Reach S X u
theorem rA {S T : St} (h : ∀ f, S f → T f) {t u : Tk} (l : load S t u) : load T t u := by
 cases t with
 | out o => obtain ⟨i, a, b⟩ := l; exact ⟨i, h _ a, b⟩
 | site s => exact l.imp (h _) fun x => ⟨x.1, h _ x.2⟩
 | beyond => exact l
theorem Reach.mono {S T : St} {X Y : Tk → Prop} (h : ∀ f, S f → T f) (hx : ∀ t, X t → Y t) {t : Tk} (r : Reach S X t) : Reach T Y t := by
 induction r with
 | base x => exact .base (hx _ x)
 | step _ l ih => exact .step ih (rA h l)
theorem Reach.idem {S : St} {X : Tk → Prop} {t : Tk} (r : Reach S (Reach S X) t) : Reach S X t := by
 induction r with
 | base x => exact x
 | step _ l ih => exact .step ih l
theorem Reach.one {S : St} {X : Tk → Prop} {t : Tk} (r : Reach S X t) : ∃ u, X u ∧ Reach S (fun x => x = u) t := by
 induction r with
 | base x => exact ⟨_, x, .base rfl⟩
 | step _ l ih => obtain ⟨u, hu, r⟩ := ih; exact ⟨u, hu, .step r l⟩
theorem Reach.of_one {S : St} {X : Tk → Prop} {t u : Tk} (hu : X u) (r : Reach S (fun x => x = u) t) : Reach S X t := r.mono (fun ξ h => h) fun ξ h => by rw [h]; exact hu
noncomputable def out1 (S : St) : Tk → Prop
 | .out o => S (.leak o)
 | .site s => S (.gone s)
 | .beyond => True
noncomputable def Lk (S : St) (X : Tk → Prop) : Prop := ∀ t, Reach S X t → out1 S t
theorem Lk.mono {S : St} {X Y : Tk → Prop} (h : Lk S Y) (hx : ∀ t, X t → Y t) : Lk S X := fun t r => h t (r.mono (fun ξ x => x) hx)
theorem Lk.parts {S : St} {X : Tk → Prop} : Lk S X ↔ ∀ u, X u → Lk S (fun t => t = u) :=
 ⟨fun h u hu t r => h t (.of_one hu r), fun h t r => by obtain ⟨u, hu, r⟩ := r.one; exact h u hu t r⟩
noncomputable def isSite : Tk → Prop
 | .site _ => True
 | _ => False
noncomputable def PO (S : St) (o : Bool) (X : Tk → Prop) : Prop := ∀ t, Reach S X t → S (.kept t.inn o) ∧ (isSite t → Lk S fun u => u = t)
noncomputable def Pt (S : St) (X : Tk → Prop) : Tk → Prop
 | .beyond => Lk S X
 | .out o => PO S o X
 | .site s => (∀ u, X u → S (.ins s u)) ∧ (S (.gone s) → Lk S X)
noncomputable def allTk : List Tk := [.out false, .out true, .site .a, .site .b, .site .c, .site .d, .beyond]
theorem fW (t : Tk) : t ∈ allTk := by rcases t with (_ | _) | (_ | _ | _ | _) | _ <;> repeat (first | exact List.Mem.head _ | apply List.Mem.tail)
theorem cr {α : Type} : ∀ {l m : List α}, l.Nodup → (∀ x ∈ l, x ∈ m) → l.length ≤ m.length := by
 intro l
 induction l with
 | nil => intro m _ _; exact Nat.zero_le _
 | cons a l ih =>
  intro m hn hs
  obtain ⟨m1, m2, rfl⟩ := List.append_of_mem (hs a (List.mem_cons_self ..))
  have hn' := List.nodup_cons.mp hn
  have : l.length ≤ (m1 ++ m2).length := ih hn'.2 fun x hx => by
   have := hs x (List.mem_cons_of_mem _ hx)
   rcases List.mem_append.mp this with h | h
   ·exact List.mem_append.mpr (.inl h)
   ·rcases List.mem_cons.mp h with h | h
    ·exact absurd (h ▸ hx) hn'.1
    ·exact List.mem_append.mpr (.inr h)
  simp only [List.length_append, List.length_cons] at this ⊢
  omega
theorem d9 {l : List Tk} (h : l.Nodup) : l.length ≤ 7 := cr (m := allTk) h fun t ξ => fW t
noncomputable def qx : List Fact := (List.finRange 8).flatMap (fun r => allTk.map (.held r)) ++ ([.a, .b, .c, .d] : List Site).flatMap (fun s => allTk.map (.ins s)) ++ ([.a, .b, .c, .d] : List Site).map .gone ++ [.leak false, .leak true] ++ ([none, some false, some true] : List (Option Bool)).flatMap fun i => [.kept i false, .kept i true]
theorem eA (s : Site) : s ∈ ([.a, .b, .c, .d] : List Site) := by cases s <;> repeat (first | exact List.Mem.head _ | apply List.Mem.tail)
theorem og (f : Fact) : f ∈ qx := by
 cases f with
 | held r t => exact List.mem_append_left _ (List.mem_append_left _ (List.mem_append_left _ (List.mem_append_left _ (List.mem_flatMap.mpr ⟨r, List.mem_finRange r, List.mem_map_of_mem (fW t)⟩))))
 | ins s t => exact List.mem_append_left _ (List.mem_append_left _ (List.mem_append_left _ (List.mem_append_right _ (List.mem_flatMap.mpr ⟨s, eA s, List.mem_map_of_mem (fW t)⟩))))
 | gone s => exact List.mem_append_left _ (List.mem_append_left _ (List.mem_append_right _ (List.mem_map_of_mem (eA s))))
 | leak o => exact List.mem_append_left _ (List.mem_append_right _ (by cases o <;> repeat (first | exact List.Mem.head _ | apply List.Mem.tail)))
 | kept i o => exact List.mem_append_right _ (List.mem_flatMap.mpr ⟨i, by rcases i with _ | (_ | _) <;> repeat (first | exact List.Mem.head _ | apply List.Mem.tail), by cases o <;> repeat (first | exact List.Mem.head _ | apply List.Mem.tail)⟩)
theorem ia {l : List Fact} (h : l.Nodup) : l.length ≤ 96 := cr (m := qx) h fun t ξ => og t
section
variable {C : Cx} {k : Nat} {sc : Scope}
theorem oL {x : Str} {pos : Pos} {kd : NameKind} (i : Nat) (hi : sc.names[i]? = some (x, kd) := by exact rfl) (hk : kd = .local ∨ kd = .cell ∨ kd = .free := by exact .inl rfl) (hn : ((x == ("__classdict__" : Str)) || (x == ("__debug__" : Str))) = false := by kernel_rfl) : SimE C k sc (.Name x pos) (eLoc i) := sim_loc hi hk hn
theorem lC {x : Expr} {r : List Expr} {f : EM V} {g : EM (List V)} (h : SimE C k sc x f) (h' : SimL C k sc r g) (hx : dU [x] = true := by exact rfl) : SimL C k sc (x :: r) (ac f g) := qO h h' hx
theorem lN : SimL C k sc [] lNil := nv
theorem iT {value slice : Expr} {pos : Pos} {f g : EM V} (hv : SimE C k sc value f) (hi : SimE C k sc slice g) (hs : ∀ o i, subscripted slice false o i = operate [o, i] (getItem o i) := by exact fun ξ ξ => rfl) : SimE C k sc (.Subscript value slice pos) (e2 ah f g) := sim_item hv hi hs
theorem gL {x : Str} {pos : Pos} {v : V} {rv : Value} (hx : sc.names.lookup x = some .globalImplicit := by kernel_rfl) (hd : (x == ("__debug__" : Str)) = false := by kernel_rfl) (hn : nsIn C.K mainGlobals x = some (some rv) := by kernel_rfl) (hv : C.Ok → Rel [] C.base v rv := by exact fun ξ => rfl) : SimE C k sc (.Name x pos) (eC v) := cE hx hd hn hv
theorem bL {x : Str} {pos : Pos} {rv : Value} (hx : sc.names.lookup x = some .globalImplicit := by kernel_rfl) (hd : (x == ("__debug__" : Str)) = false := by kernel_rfl) (hn : nsIn C.K mainGlobals x = some none := by kernel_rfl) (hb : bootBuiltins x = some rv := by kernel_rfl) (hnm : x ≠ "__name__" := by decide) : SimE C k sc (.Name x pos) (eC (.raw rv)) := sim_blt hx hd hn hb hnm
theorem cG {id : Str} {p pos : Pos} {args : List Expr} {fa : EM (List V)} {m : List V → OM V} {rv : Value} (hn : SimE C k sc (.Name id p) (eC (.raw rv))) (ha : SimL C k sc args fa) (hk : lF C rv) (hop : OpL C k (fun vs => call rv vs) m) : SimE C k sc (.Call (.Name id p) args [] pos) (eL m fa) := sim_call hn ha ha.star hk hop
theorem kR {a : Addr} (h : keepIn C.K (.ref a) = true := by kernel_rfl) : lF C (.ref a) := mB h
theorem xE {e : Expr} {pos : Pos} {f : EM V} (h : SimE C k sc e f) (hf : sc.kind = .function := by exact rfl) (hs : ∀ env, swapsWith e none pos.line env = pure false := by exact fun ξ => rfl) : SimS C k sc (.Expr e pos) (aL f) := qI h hf hs
theorem xS {x : Str} {e : Expr} {p pos : Pos} {kd : NameKind} {f : EM V} (i : Nat) (h : SimE C k sc e f) (hi : sc.names[i]? = some (x, kd) := by exact rfl) (hk : kd = .local ∨ kd = .cell := by exact .inl rfl) (hs : ∀ env, swapsWith e (some (.Name x p)) pos.line env = pure false := by exact fun ξ => rfl) : SimS C k sc (.Assign [.Name x p] e pos) (sSet i f) := nu h hi hk hs
theorem cM {l r : Expr} {op : CmpOp} {pos : Pos} {f g : EM V} {m : V → V → OM V} (hl : SimE C k sc l f) (hr : SimE C k sc r g) (ho : Op2 C k (compareOp op) m) (hm : behindInMarks op r = false := by kernel_rfl) : SimE C k sc (.Compare l [op] [r] pos) (e2 m f g) := sim_cmp hl hr ho hm
theorem cB {l r : Expr} {op : CmpOp} {pos : Pos} {f g : EM V} {m : V → V → OM V} (hl : SimE C k sc l f) (hr : SimE C k sc r g) (ho : Op2 C k (compareOp op) m) (hm : behindInMarks op r = false := by kernel_rfl) : SimB C k sc (.Compare l [op] [r] pos) (bV (e2 m f g)) := sim_cmpB hl hr ho hm
theorem xF {iter tgt : Expr} {body : List Stmt} {pos : Pos} {it : EM Src} {b : TM} {g : SM} (hi : io C k sc iter it) (ht : eF C own sc tgt b) (hb : fq C k sc body g) (hto : ∀ loc H src H', it loc H = some (src, H') → fw src tgt = true) (hs : ∀ env x, foldedSetIterable iter env x = pure x := by exact fun ξ ξ => rfl) : SimS C k sc (.For tgt iter body [] pos) (sFor it b g) := sims_for hi ht hb hto hs
theorem xA {ob e : Expr} {name : Str} {p pos : Pos} {K : Addr} {fo fv : EM V} (hv : SimE C k sc e fv) (ho : SimE C k sc ob fo) (ok : SetOk C K name) (hs : ∀ env, swapsWith e (some (.Attribute ob name p)) pos.line env = pure false := by exact fun ξ => rfl) : SimS C k sc (.Assign [.Attribute ob name p] e pos) (ba K name fo fv) := mN hv ho ok hs
theorem fQ {a : Addr} {m : List V → OM V} {j : Nat} (h : OpC C j a m) (hj : j ≤ k := by decide) : OpL C k (fun vs => call (.ref a) vs) m := OpL.le h.op hj
theorem xC {st : Stmt} {r : List Stmt} {f g : SM} (h : SimS C k sc st f) (h' : fq C k sc r g) : fq C k sc (st :: r) (ai f g) := qK h h'
theorem xN : fq C k sc [] sNil := sims_nil
theorem sS {n : Nat} {pos : Pos} {x : Str} : SimE C k sc (.Constant (.str x) n pos) (eC (.str x)) := sim_str
theorem sI {n : Nat} {pos : Pos} {i : Int} : SimE C k sc (.Constant (.int i) n pos) (eC (.int i)) := sim_int
end
theorem b0 {α : Type} {l : List α} (h : l.length = 0) : l = [] := List.eq_nil_of_length_eq_zero h
theorem bS {α : Type} {l : List α} {n : Nat} (h : l.length = n + 1) : ∃ a r, l = a :: r ∧ r.length = n := by
 cases l with
 | nil => cases h
 | cons a r => exact ⟨a, r, rfl, Nat.succ.inj h⟩
section
variable {C : Cx} {fd : FuncData} {L : List Str} {dr : List Value}
@[reducible] noncomputable def BT (C : Cx) (fd : FuncData) (L : List Str) (dr : List Value) (n : Nat) (p : List Value) : Prop := ∀ (s : Shared) (vals : List Value), C.K.In s.heap → vals.length = n → BindsTo s fd ⟨p ++ vals, []⟩ (L.zip (p ++ vals ++ dr))
theorem bt0 {p : List Value} (e : bindArgs fd ⟨p, []⟩ = pure (L.zip (p ++ dr))) : BT C fd L dr 0 p := fun ξ ξ ξ h => by cases b0 h; rw [List.append_nil]; exact .of_eq e
theorem btS {n : Nat} {p : List Value} (h : ∀ a, BT C fd L dr n (p ++ [a])) : BT C fd L dr (n + 1) p := fun s v x y => by
 obtain ⟨a, r, rfl, z⟩ := bS y
 have := h a s r x z
 rwa [List.append_assoc] at this
theorem b1 (e : ∀ a, bindArgs fd ⟨[a], []⟩ = pure (L.zip ([a] ++ dr))) : BT C fd L dr 1 [] := btS fun a => bt0 (e a)
theorem b2 (e : ∀ a b, bindArgs fd ⟨[a, b], []⟩ = pure (L.zip ([a, b] ++ dr))) : BT C fd L dr 2 [] := btS fun a => btS fun b => bt0 (e a b)
theorem b3 (e : ∀ a b c, bindArgs fd ⟨[a, b, c], []⟩ = pure (L.zip ([a, b, c] ++ dr))) : BT C fd L dr 3 [] := btS fun a => btS fun b => btS fun c => bt0 (e a b c)
theorem b4 (e : ∀ a b c d, bindArgs fd ⟨[a, b, c, d], []⟩ = pure (L.zip ([a, b, c, d] ++ dr))) : BT C fd L dr 4 [] := btS fun a => btS fun b => btS fun c => btS fun d => bt0 (e a b c d)
end
noncomputable def fdO (x q : Str) (a : Arguments) (b : List Stmt) (sc : Scope) (m : Value) (c : Addr) : FuncData := { name := x, qualname := q, params := a, body := .stmts b, scope := sc, globals := 3, closure := [], defaults := .none, kwdefaults := .none, pyModule := m, code := .ref c }
noncomputable def fnOk (sc : Scope) (n : Nat) : Bool := !sc.isCoroutine && (!sc.isGenerator && (decide (sc.kind = .function) && (decide (sc.names.map (·.1)).Nodup && (decide (n ≤ sc.names.length) && (((sc.names.take n).all fun x => x.2 == .local || x.2 == .cell) && (sc.names.all fun x => x.2 != .free))))))
theorem mH {a b : Bool} (h : (a && b) = true) : a = true := (Bool.and_eq_true_iff.mp h).1
theorem dc {a b : Bool} (h : (a && b) = true) : b = true := (Bool.and_eq_true_iff.mp h).2
theorem fn_K {C : Cx} {f c : Addr} {k n size : Nat} {q x : Str} {m : Value} {a : Arguments} {b : List Stmt} {sc : Scope} {g : SM} (hl : C.K.lookup f = some (bO (some (x, a, b, sc)) q .none m c)) (hb : BT C (fdO x q a b sc m c) ((sc.names.take n).map (·.1)) [] n []) (hz : sc.names.length = size) (hg : fq C k sc b g)
  (hc : codeIn C.K (.ref c) q = true := by kernel_rfl) (hk : fnOk sc n = true := by kernel_rfl) : OpC C (k + 1) f (mFn n size [] g) :=
 fn_op (dr := []) (fd := fdO x q a b sc m c) ⟨⟨_, _, _, hl⟩, rfl, rfl, rfl, rfl, hc, Bool.not_inj (mH hk), Bool.not_inj (mH (dc hk)), of_decide_eq_true (mH (dc (dc hk))), of_decide_eq_true (mH (dc (dc (dc hk)))), of_decide_eq_true (mH (dc (dc (dc (dc hk))))), mH (dc (dc (dc (dc (dc hk))))), dc (dc (dc (dc (dc (dc hk))))), fun ξ ξ => .nil, hb⟩ hz hg
theorem len5 {α : Type} {l : List α} (h : l.length = 5) : ∃ a b c d e, l = [a, b, c, d, e] := by
 obtain ⟨a, l1, rfl, h1⟩ := bS h
 obtain ⟨b, l2, rfl, h2⟩ := bS h1
 obtain ⟨c, l3, rfl, h3⟩ := bS h2
 obtain ⟨d, l4, rfl, h4⟩ := bS h3
 obtain ⟨e, l5, rfl, h5⟩ := bS h4
 cases b0 h5
 exact ⟨_, _, _, _, _, rfl⟩
noncomputable def ka : SM :=
 ai (ba 54 "leaks" (eLoc 0) ch)
 (ai (ba 54 "kept" (eLoc 0) ch)
 (ai (ba 54 "told" (eLoc 0) ch)
 sNil))
noncomputable def ce : List V → OM V := mFn 1 1 [] ka
theorem gO (C : Cx) : OpC C 6 44 ce := by
 refine fn_K rfl (b1 fun ξ => rfl) rfl ?_
 exact xC (xA bp (oL 0) (st_leaks C)) (xC (xA bp (oL 0) (st_kept C)) (xC (xA bp (oL 0) (st_told C)) xN))
noncomputable def iM : SM :=
 ai (sRet (aw eM d8 (e1 (aG 54 "told") (eLoc 0)) (ac (eLoc 1) (ac ch lNil))))
 sNil
noncomputable def cC : List V → OM V := mFn 2 2 [] iM
theorem jc (C : Cx) : OpC C 6 51 cC := by
 refine fn_K rfl (b2 fun ξ ξ => rfl) rfl ?_
 exact xC (a7 (bH (ay (oL 0) (jg C) (fun ξ => rfl)) cR PySem.F.plainAttrs_dict PySem.F.slot_dict_setdefault PySem.F.type_dict_setdefault (lC (oL 1) (lC bp lN)) rfl g9 (fun ξ => rfl) rfl rfl)) xN
noncomputable def iP : SM :=
 ai (ba 204 "code" (eLoc 0) (eLoc 1))
 (ai (ba 204 "summaries" (eLoc 0) (eLoc 2))
 (ai (ba 204 "held" (eLoc 0) ch)
 (ai (ba 204 "inside" (eLoc 0) ch)
 (ai (ba 204 "sites" (eLoc 0) ch)
 (ai (ba 204 "gone" (eLoc 0) ch)
 (ai (ba 204 "summary" (eLoc 0) (eL (gu 54 ce) lNil))
 (ai (ba 204 "is_new" (eLoc 0) (eC (.bool false)))
 (ai (sFor (itL dJ (ac (e2 mAdd (e1 (aG 250 "captured") (eLoc 1)) (e1 (aG 250 "params") (eLoc 1))) lNil)) (aT 3)
  (ai (bI (e1 (aG 204 "held") (eLoc 0)) (eLoc 3) (cP (bd (av (ac (eC (.str "outer")) (ac (eLoc 3) lNil))) (eC (.bool true)) dK)))
 sNil))
 sNil))))))))
noncomputable def fD : List V → OM V := mFn 3 6 [] iP
theorem jd (C : Cx) : OpC C 8 72 fD := by
 refine fn_K rfl (b3 fun ξ ξ ξ => rfl) rfl ?_
 exact xC (xA (oL 1) (oL 0) (st_code C)) (xC (xA (oL 2) (oL 0) (mK C)) (xC (xA bp (oL 0) (st_held C)) (xC (xA bp (oL 0) (qE C)) (xC (xA bp (oL 0) (st_sites C)) (xC (xA bp (oL 0) (st_gone C)) (xC (xA (cG gL lN kR (OpL.le (jU (by kernel_rfl) (by kernel_rfl) (by kernel_rfl) (gO C)) (by decide))) (oL 0) (oQ C)) (xC (xA bX (oL 0) (lO C)) (xC (xF (ee bL (lC (aM (ay (oL 1) (oK C) (fun ξ => rfl)) (ay (oL 1) (rI C) (fun ξ => rfl)) cw) lN) rfl) (aJ (X := true) (i := 3) rfl rfl) (xC (bm (dN (aU (ao (lC sS (lC (oL 3) lN))) bX dQ) (fun ξ => rfl) rfl) (ay (oL 0) (at_held C) (fun ξ => rfl)) (oL 3) (fun ξ => rfl)) xN) j2) xN))))))))
noncomputable def gd : SM :=
 ai (sIf (bV (e2 (mIs false) (eLoc 1) (eC .none)))
  (ai (sRet (am lNil))
 sNil)
  sNil)
 (ai (sIf (bV (e2 mEq (e2 ah (eLoc 1) (eC (.int 0))) (eC (.str "reg"))))
  (ai (sRet (eL eG (ac (aw eM mGet (e1 (aG 204 "held") (eLoc 0)) (ac (e2 ah (eLoc 1) (eC (.int 1))) (ac ch lNil))) lNil)))
 sNil)
  sNil)
 (ai (sRet (eIf (bV (e2 mNe (fun ξ => cZ) (am lNil))) (am (ac (eC (.tup [.str "beyond"])) lNil)) (am lNil)))
 sNil))
noncomputable def az : List V → OM V := mFn 2 5 [] gd
theorem bo (C : Cx) : OpC C 6 79 az := by
 refine fn_K rfl (b2 fun ξ ξ => rfl) rfl ?_
 exact xC (aN (cB (oL 1) gy op_is) (xC (a7 (al lN)) xN) xN) (xC (aN (cB (iT (oL 1) sI) sS bD) (xC (a7 (cG bL (lC (bH (ay (oL 0) (at_held C) (fun ξ => rfl)) cR PySem.F.plainAttrs_dict PySem.F.slot_dict_get PySem.F.type_dict_get (lC (iT (oL 1) sI) (lC bp lN)) rfl ir (fun ξ => rfl) rfl rfl) lN) bR gh)) xN) xN) (xC (a7 (a5 (cB qL (al lN) fR) (al (lC (cE (by kernel_rfl) (by kernel_rfl) (by kernel_rfl) (dp C)) lN)) (al lN))) xN))
noncomputable def eY : SM :=
 ai (sSet 2 (am lNil))
 (ai (sFor (itV (eLoc 1)) (aT 3)
  (ai (aL (aw im hZ (eLoc 2) (ac (aw (au 204 "tokens_of") az (eLoc 0) (ac (eLoc 3) lNil)) lNil)))
 sNil))
 (ai (sRet (eLoc 2))
 sNil))
noncomputable def aH : List V → OM V := mFn 2 4 [] eY
theorem bT (C : Cx) : OpC C 7 86 aH := by
 refine fn_K rfl (b2 fun ξ ξ => rfl) rfl ?_
 exact xC (xS 2 (al lN)) (xC (xF (aQ (oL 1)) (aJ (X := true) (i := 3) rfl rfl) (xC (xE (bH (oL 2) gU PySem.F.plainAttrs_list PySem.F.slot_list_extend PySem.F.type_list_extend (lC (aP (oL 0) (dH C) (lC (oL 3) lN) rfl (fQ (bo C)) (fun ξ => rfl)) lN) rfl lR (fun ξ => rfl) rfl rfl)) xN) aZ) (xC (a7 (oL 2)) xN))
noncomputable def ie : SM :=
 ai (sSet 2 ch)
 (ai (sFor (itV (eLoc 1)) (aT 3)
  (ai (sIf (bV (e2 mNe (e2 ah (eLoc 3) (eC (.int 0))) (eC (.str "site"))))
  (ai (bI (eLoc 2) (eLoc 3) (eC (.bool true)))
 (ai (sFor (itV (e1 (aG 54 "kept") (e1 (aG 204 "summary") (eLoc 0)))) (eX 4 5)
  (ai (sIf (bV (e2 mEq (eLoc 3) (av (ac (eC (.str "outer")) (ac (eLoc 5) lNil)))))
  (ai (bI (eLoc 2) (eIf (bV (e2 mEq (eLoc 4) (eC (.int (-1))))) (eC (.tup [.str "beyond"])) (av (ac (eC (.str "outer")) (ac (eLoc 4) lNil)))) (eC (.bool true)))
 sNil)
  sNil)
 sNil))
 (ai sCont
 sNil)))
  sNil)
 (ai (sFor (itV (aw eM mGet (e1 (aG 204 "inside") (eLoc 0)) (ac (e2 ah (eLoc 3) (eC (.int 1))) (ac ch lNil)))) (aT 4)
  (ai (bI (eLoc 2) (eLoc 4) (eC (.bool true)))
 sNil))
 (ai (sIf (bV (e2 (mIn false) (e2 ah (eLoc 3) (eC (.int 1))) (e1 (aG 204 "gone") (eLoc 0))))
  (ai (bI (eLoc 2) (eC (.tup [.str "beyond"])) (eC (.bool true)))
 sNil)
  sNil)
 sNil))))
 (ai (sRet (eL eG (ac (eLoc 2) lNil)))
 sNil))
noncomputable def c7 : List V → OM V := mFn 2 9 [] ie
theorem ij (C : Cx) : OpC C 6 100 c7 := by
 refine fn_K rfl (b2 fun ξ ξ => rfl) rfl ?_
 exact xC (xS 2 bp) (xC (xF (aQ (oL 1)) (aJ (X := true) (i := 3) rfl rfl) (xC (aN (cB (iT (oL 3) sI) sS fR) (xC (bm bX (oL 2) (oL 3) (fun ξ => rfl)) (xC (xF (aQ (ay (ay (oL 0) (at_summary C) (fun ξ => rfl)) (at_kept C) (fun ξ => rfl))) (cn (X := true) (i := 4) (j := 5) rfl rfl rfl rfl) (xC (aN (cB (oL 3) (ao (lC sS (lC (oL 5) lN))) bD) (xC (bm bX (oL 2) (a5 (cB (oL 4) (cE (by kernel_rfl) (by kernel_rfl) (rv := .int (-1) 219) (by kernel_rfl) (gC C)) bD) (cE (by kernel_rfl) (by kernel_rfl) (by kernel_rfl) (dp C)) (ao (lC sS (lC (oL 4) lN)))) (fun ξ => rfl)) xN) xN) xN) aZ) (xC qJ xN))) xN) (xC (xF (aQ (bH (ay (oL 0) (at_inside C) (fun ξ => rfl)) cR PySem.F.plainAttrs_dict PySem.F.slot_dict_get PySem.F.type_dict_get (lC (iT (oL 3) sI) (lC bp lN)) rfl ir (fun ξ => rfl) rfl rfl)) (aJ (X := true) (i := 4) rfl rfl) (xC (bm bX (oL 2) (oL 4) (fun ξ => rfl)) xN) aZ) (xC (aN (cB (iT (oL 3) sI) (ay (oL 0) (at_gone C) (fun ξ => rfl)) gD) (xC (bm bX (oL 2) (cE (by kernel_rfl) (by kernel_rfl) (by kernel_rfl) (dp C)) (fun ξ => rfl)) xN) xN) xN))) aZ) (xC (a7 (cG bL (lC (oL 2) lN) bR gh)) xN))
noncomputable def gA : SM :=
 ai (fN (ip 2 3) (av (ac ch (ac (eL eG (ac (eLoc 1) lNil)) lNil))))
 (ai (eZ (bV (e2 mNe (eLoc 3) (am lNil)))
  (ai (sSet 4 (aw im mPop (eLoc 3) lNil))
 (ai (sIf (bV (e2 (mIn true) (eLoc 4) (eLoc 2)))
  (ai (bI (eLoc 2) (eLoc 4) (eC (.bool true)))
 (ai (aL (aw im hZ (eLoc 3) (ac (aw (au 204 "loaded") c7 (eLoc 0) (ac (am (ac (eLoc 4) lNil)) lNil)) lNil)))
 sNil))
  sNil)
 sNil)))
 (ai (sRet (eL eG (ac (eLoc 2) lNil)))
 sNil))
noncomputable def a8 : List V → OM V := mFn 2 6 [] gA
theorem cN (C : Cx) : OpC C 7 93 a8 := by
 refine fn_K rfl (b2 fun ξ ξ => rfl) rfl ?_
 exact xC (gc (i := 2) (j := 3) (ao (lC bp (lC (cG bL (lC (oL 1) lN) bR gh) lN))) rfl rfl (fun ξ => rfl) (fun env h => by cases env; cases h; kernel_rfl)) (xC (gb (cB (oL 3) (al lN) fR) (xC (xS 4 (bH (oL 3) gU PySem.F.plainAttrs_list PySem.F.slot_list_pop PySem.F.type_list_pop lN rfl op_pop (fun ξ => rfl) rfl rfl)) (xC (aN (cB (oL 4) (oL 2) kr) (xC (bm bX (oL 2) (oL 4) (fun ξ => rfl)) (xC (xE (bH (oL 3) gU PySem.F.plainAttrs_list PySem.F.slot_list_extend PySem.F.type_list_extend (lC (aP (oL 0) (rg C) (lC (al (lC (oL 4) lN)) lN) rfl (fQ (ij C)) (fun ξ => rfl)) lN) rfl lR (fun ξ => rfl) rfl rfl)) xN)) xN) xN))) (xC (a7 (cG bL (lC (oL 2) lN) bR gh)) xN))
noncomputable def iN : SM :=
 ai (sIf (bV (e2 (mIn true) (eLoc 2) (eLoc 1)))
  (ai (bI (eLoc 1) (eLoc 2) (eC (.bool true)))
 (ai (ba 204 "is_new" (eLoc 0) (eC (.bool true)))
 sNil))
  sNil)
 sNil
noncomputable def ar : List V → OM V := mFn 3 3 [] iN
theorem be (C : Cx) : OpC C 6 107 ar := by
 refine fn_K rfl (b3 fun ξ ξ ξ => rfl) rfl ?_
 exact xC (aN (cB (oL 2) (oL 1) kr) (xC (bm bX (oL 1) (oL 2) (fun ξ => rfl)) (xC (xA bX (oL 0) (lO C)) xN)) xN) xN
noncomputable def iQ : SM :=
 ai (sIf (bV (e2 (mIs true) (eLoc 1) (eC .none)))
  (ai (sSet 3 (aw eM d8 (e1 (aG 204 "held") (eLoc 0)) (ac (eLoc 1) (ac ch lNil))))
 (ai (sFor (itV (eLoc 2)) (aT 4)
  (ai (aL (aw (au 204 "note") ar (eLoc 0) (ac (eLoc 3) (ac (eLoc 4) lNil))))
 sNil))
 sNil))
  sNil)
 sNil
noncomputable def aX : List V → OM V := mFn 3 5 [] iQ
theorem dL (C : Cx) : OpC C 7 114 aX := by
 refine fn_K rfl (b3 fun ξ ξ ξ => rfl) rfl ?_
 exact xC (aN (cB (oL 1) gy nO) (xC (xS 3 (bH (ay (oL 0) (at_held C) (fun ξ => rfl)) cR PySem.F.plainAttrs_dict PySem.F.slot_dict_setdefault PySem.F.type_dict_setdefault (lC (oL 1) (lC bp lN)) rfl g9 (fun ξ => rfl) rfl rfl)) (xC (xF (aQ (oL 2)) (aJ (X := true) (i := 4) rfl rfl) (xC (xE (aP (oL 0) (fB C) (lC (oL 3) (lC (oL 4) lN)) rfl (fQ (be C)) (fun ξ => rfl))) xN) aZ) xN)) xN) xN
noncomputable def iO : SM :=
 ai (sFor (itV (aw (au 204 "reached") a8 (eLoc 0) (ac (eLoc 1) lNil))) (aT 2)
  (ai (sIf (bV (e2 mEq (e2 ah (eLoc 2) (eC (.int 0))) (eC (.str "site"))))
  (ai (aL (aw (au 204 "note") ar (eLoc 0) (ac (e1 (aG 204 "gone") (eLoc 0)) (ac (e2 ah (eLoc 2) (eC (.int 1))) lNil))))
 sNil)
  (ai (sIf (bV (e2 mEq (e2 ah (eLoc 2) (eC (.int 0))) (eC (.str "outer"))))
  (ai (aL (aw (au 204 "note") ar (eLoc 0) (ac (e1 (aG 54 "leaks") (e1 (aG 204 "summary") (eLoc 0))) (ac (e2 ah (eLoc 2) (eC (.int 1))) lNil))))
 sNil)
  sNil)
 sNil))
 sNil))
 sNil
noncomputable def aA : List V → OM V := mFn 2 3 [] iO
theorem bf (C : Cx) : OpC C 8 128 aA := by
 refine fn_K rfl (b2 fun ξ ξ => rfl) rfl ?_
 exact xC (xF (aQ (aP (oL 0) (iC C) (lC (oL 1) lN) rfl (fQ (cN C)) (fun ξ => rfl))) (aJ (X := true) (i := 2) rfl rfl) (xC (aN (cB (iT (oL 2) sI) sS bD) (xC (xE (aP (oL 0) (fB C) (lC (ay (oL 0) (at_gone C) (fun ξ => rfl)) (lC (iT (oL 2) sI) lN)) rfl (fQ (be C)) (fun ξ => rfl))) xN) (xC (aN (cB (iT (oL 2) sI) sS bD) (xC (xE (aP (oL 0) (fB C) (lC (ay (ay (oL 0) (at_summary C) (fun ξ => rfl)) (at_leaks C) (fun ξ => rfl)) (lC (iT (oL 2) sI) lN)) rfl (fQ (be C)) (fun ξ => rfl))) xN) xN) xN)) xN) aZ) xN
noncomputable def gB : SM :=
 ai (sFor (itV (aw (au 204 "reached") a8 (eLoc 0) (ac (eLoc 2) lNil))) (aT 3)
  (ai (sIf (bV (e2 mEq (e2 ah (eLoc 3) (eC (.int 0))) (eC (.str "site"))))
  (ai (aL (aw (au 204 "leak") aA (eLoc 0) (ac (am (ac (eLoc 3) lNil)) lNil)))
 sNil)
  sNil)
 (ai (aL (aw (au 204 "note") ar (eLoc 0) (ac (e1 (aG 54 "kept") (e1 (aG 204 "summary") (eLoc 0))) (ac (av (ac (eIf (bV (e2 mEq (e2 ah (eLoc 3) (eC (.int 0))) (eC (.str "outer")))) (e2 ah (eLoc 3) (eC (.int 1))) (eC (.int (-1)))) (ac (eLoc 1) lNil))) lNil))))
 sNil)))
 sNil
noncomputable def cI : List V → OM V := mFn 3 5 [] gB
theorem gP (C : Cx) : OpC C 9 142 cI := by
 refine fn_K rfl (b3 fun ξ ξ ξ => rfl) rfl ?_
 exact xC (xF (aQ (aP (oL 0) (iC C) (lC (oL 2) lN) rfl (fQ (cN C)) (fun ξ => rfl))) (aJ (X := true) (i := 3) rfl rfl) (xC (aN (cB (iT (oL 3) sI) sS bD) (xC (xE (aP (oL 0) (fC C) (lC (al (lC (oL 3) lN)) lN) rfl (fQ (bf C)) (fun ξ => rfl))) xN) xN) (xC (xE (aP (oL 0) (fB C) (lC (ay (ay (oL 0) (at_summary C) (fun ξ => rfl)) (at_kept C) (fun ξ => rfl)) (lC (ao (lC (a5 (cB (iT (oL 3) sI) sS bD) (iT (oL 3) sI) (cE (by kernel_rfl) (by kernel_rfl) (rv := .int (-1) 219) (by kernel_rfl) (gC C))) (lC (oL 1) lN))) lN)) rfl (fQ (be C)) (fun ξ => rfl))) xN)) aZ) xN
noncomputable def jn : SM :=
 ai (sFor (itV (eLoc 1)) (aT 3)
  (ai (sIf (bV (e2 mEq (eLoc 3) (eC (.tup [.str "beyond"]))))
  (ai (aL (aw (au 204 "leak") aA (eLoc 0) (ac (eLoc 2) lNil)))
 sNil)
  (ai (sIf (bV (e2 mEq (e2 ah (eLoc 3) (eC (.int 0))) (eC (.str "outer"))))
  (ai (aL (aw (au 204 "put_out") cI (eLoc 0) (ac (e2 ah (eLoc 3) (eC (.int 1))) (ac (eLoc 2) lNil))))
 sNil)
  (ai (sSet 4 (aw eM d8 (e1 (aG 204 "inside") (eLoc 0)) (ac (e2 ah (eLoc 3) (eC (.int 1))) (ac ch lNil))))
 (ai (sFor (itV (eLoc 2)) (aT 5)
  (ai (aL (aw (au 204 "note") ar (eLoc 0) (ac (eLoc 4) (ac (eLoc 5) lNil))))
 sNil))
 (ai (sIf (bV (e2 (mIn false) (e2 ah (eLoc 3) (eC (.int 1))) (e1 (aG 204 "gone") (eLoc 0))))
  (ai (aL (aw (au 204 "leak") aA (eLoc 0) (ac (eLoc 2) lNil)))
 sNil)
  sNil)
 sNil))))
 sNil))
 sNil))
 sNil
noncomputable def bj : List V → OM V := mFn 3 7 [] jn
theorem d4 (C : Cx) : OpC C 10 135 bj := by
 refine fn_K rfl (b3 fun ξ ξ ξ => rfl) rfl ?_
 exact xC (xF (aQ (oL 1)) (aJ (X := true) (i := 3) rfl rfl) (xC (aN (cB (oL 3) (cE (by kernel_rfl) (by kernel_rfl) (by kernel_rfl) (dp C)) bD) (xC (xE (aP (oL 0) (fC C) (lC (oL 2) lN) rfl (fQ (bf C)) (fun ξ => rfl))) xN) (xC (aN (cB (iT (oL 3) sI) sS bD) (xC (xE (aP (oL 0) (pF C) (lC (iT (oL 3) sI) (lC (oL 2) lN)) rfl (fQ (gP C)) (fun ξ => rfl))) xN) (xC (xS 4 (bH (ay (oL 0) (at_inside C) (fun ξ => rfl)) cR PySem.F.plainAttrs_dict PySem.F.slot_dict_setdefault PySem.F.type_dict_setdefault (lC (iT (oL 3) sI) (lC bp lN)) rfl g9 (fun ξ => rfl) rfl rfl)) (xC (xF (aQ (oL 2)) (aJ (X := true) (i := 5) rfl rfl) (xC (xE (aP (oL 0) (fB C) (lC (oL 4) (lC (oL 5) lN)) rfl (fQ (be C)) (fun ξ => rfl))) xN) aZ) (xC (aN (cB (iT (oL 3) sI) (ay (oL 0) (at_gone C) (fun ξ => rfl)) gD) (xC (xE (aP (oL 0) (fC C) (lC (oL 2) lN) rfl (fQ (bf C)) (fun ξ => rfl))) xN) xN) xN)))) xN)) xN) aZ) xN
noncomputable def ig : SM :=
 ai (sSet 4 (cQ (itV (eLoc 2)) [none, none, some 0] (aT 1) (eC true) (cS (aw (au 204 "reached") a8 (eLoc 2) (ac (aw (au 204 "tokens_of") az (eLoc 2) (ac (eLoc 1) lNil)) lNil)))))
 (ai (sFor (itV (eL aV (ac (e1 (aG 54 "leaks") (eLoc 1)) lNil))) (aT 5)
  (ai (sIf (bV (e2 mLt (eLoc 5) (eL mLen (ac (eLoc 4) lNil))))
  (ai (aL (aw (au 204 "leak") aA (eLoc 0) (ac (e2 ah (eLoc 4) (eLoc 5)) lNil)))
 sNil)
  sNil)
 sNil))
 (ai (sFor (itV (eL aV (ac (e1 (aG 54 "kept") (eLoc 1)) lNil))) (eX 6 5)
  (ai (sIf (bV (e2 mLt (eLoc 5) (eL mLen (ac (eLoc 4) lNil))))
  (ai (aL (aw (au 204 "put") bj (eLoc 0) (ac (e2 ah (eLoc 4) (eLoc 5)) (ac (eIf (nc mLe mLt (eC (.int 0)) (eLoc 6) (eL mLen (ac (eLoc 4) lNil))) (e2 ah (eLoc 4) (eLoc 6)) (am (ac (eC (.tup [.str "beyond"])) lNil))) lNil))))
 sNil)
  sNil)
 sNil))
 (ai (sFor (itL jM (ac (eLoc 3) lNil)) (eX 7 8)
  (ai (sFor (itV (aw eM mGet (e1 (aG 54 "told") (eLoc 1)) (ac (eLoc 7) (ac ch lNil)))) (aT 9)
  (ai (aL (aw (au 204 "give") aX (eLoc 0) (ac (eLoc 8) (ac (eIf (bV (e2 mEq (eLoc 9) (eC (.int (-1))))) (am (ac (eC (.tup [.str "beyond"])) lNil)) (e2 ah (eLoc 4) (eLoc 9))) lNil))))
 sNil))
 sNil))
 sNil)))
noncomputable def br : List V → OM V := mFn 4 15 [] ig
theorem eI (C : Cx) : OpC C 11 201 br := by
 refine fn_K rfl (b4 fun ξ ξ ξ ξ => rfl) rfl ?_
 exact xC (eO (i := 4) (fun ξ => ⟨_, fun ξ => rfl⟩) rfl (fun ξ ξ ξ => bW _ _ _ _ _ _ _ _ _) (fun ξ ξ ξ => ck _ _ _ _ _ _ _ _ _) (by kernel_rfl) rfl (aQ (oL 2)) (aJ (X := false) (i := 1) rfl rfl) b6 (bF (aP (oL 2 rfl (.inr (.inl rfl))) (iC C) (lC (aP (oL 2 rfl (.inr (.inl rfl))) (dH C) (lC (oL 1) lN) rfl (fQ (bo C)) (fun ξ => rfl)) lN) rfl (fQ (cN C)) (fun ξ => rfl))) aZ (fun ξ ξ => rfl) rfl (fun env h => by cases env; cases h; kernel_rfl)) (xC (xF (aQ (cG bL (lC (ay (oL 1) (at_leaks C) (fun ξ => rfl)) lN) aI bC)) (aJ (X := true) (i := 5) rfl rfl) (xC (aN (cB (oL 5) (cG bL (lC (oL 4) lN) aI cF) ku) (xC (xE (aP (oL 0 rfl (.inr (.inl rfl))) (fC C) (lC (iT (oL 4) (oL 5)) lN) rfl (fQ (bf C)) (fun ξ => rfl))) xN) xN) xN) aZ) (xC (xF (aQ (cG bL (lC (ay (oL 1) (at_kept C) (fun ξ => rfl)) lN) aI bC)) (cn (X := true) (i := 6) (j := 5) rfl rfl rfl rfl) (xC (aN (cB (oL 5) (cG bL (lC (oL 4) lN) aI cF) ku) (xC (xE (aP (oL 0 rfl (.inr (.inl rfl))) (pG C) (lC (iT (oL 4) (oL 5)) (lC (a5 (j7 sI (oL 6) (cG bL (lC (oL 4) lN) aI cF) op_le ku (fun ξ => rfl)) (iT (oL 4) (oL 6)) (al (lC (cE (by kernel_rfl) (by kernel_rfl) (by kernel_rfl) (dp C)) lN))) lN)) rfl (fQ (d4 C)) (fun ξ => rfl))) xN) xN) xN) aZ) (xC (xF (j6 bL (lC (oL 3) lN) rfl) (cn (X := true) (i := 7) (j := 8) rfl rfl rfl rfl) (xC (xF (aQ (bH (ay (oL 1) (jg C) (fun ξ => rfl)) cR PySem.F.plainAttrs_dict PySem.F.slot_dict_get PySem.F.type_dict_get (lC (oL 7) (lC bp lN)) rfl ir (fun ξ => rfl) rfl rfl)) (aJ (X := true) (i := 9) rfl rfl) (xC (xE (aP (oL 0 rfl (.inr (.inl rfl))) (mX C) (lC (oL 8) (lC (a5 (cB (oL 9) (cE (by kernel_rfl) (by kernel_rfl) (rv := .int (-1) 219) (by kernel_rfl) (gC C)) bD) (al (lC (cE (by kernel_rfl) (by kernel_rfl) (by kernel_rfl) (dp C)) lN)) (iT (oL 4) (oL 9))) lN)) rfl (fQ (dL C)) (fun ξ => rfl))) xN) aZ) xN) pZ) xN)))
noncomputable def fM : SM :=
 ai (aL (aw (au 204 "put") bj (eLoc 0) (ac (am (ac (av (ac (eC (.str "site")) (ac (eLoc 3) lNil))) lNil)) (ac (aw (au 204 "tokens_of_all") aH (eLoc 0) (ac (eLoc 2) lNil)) lNil))))
 (ai (sSet 4 (aw eM mGet (e1 (aG 204 "summaries") (eLoc 0)) (ac (eLoc 1) lNil)))
 (ai (sIf (bV (e2 (mIs false) (eLoc 4) (eC .none)))
  (ai (aL (aw (au 204 "leak") aA (eLoc 0) (ac (aw (au 204 "tokens_of_all") aH (eLoc 0) (ac (eLoc 2) lNil)) lNil)))
 (ai iR
 sNil))
  sNil)
 (ai (aL (aw (au 204 "follow") br (eLoc 0) (ac (eLoc 4) (ac (eLoc 2) (ac (am lNil) lNil)))))
 (ai (sSet 5 (cQ (itV (eL aV (ac (e1 (aG 54 "told") (eLoc 4)) lNil))) [none, none, none, some 4] (aT 1) (eC true) (cIn (itV (e2 ah (e1 (aG 54 "told") (eLoc 3)) (eLoc 1))) (aT 2) (eC true) (cS (eLoc 2)))))
 (ai (sSet 5 (e2 mAdd (eLoc 5) (cQ (itV (eL aV (ac (e1 (aG 54 "kept") (eLoc 4)) lNil))) [none, none, none, none, some 2] (eX 1 2) (bV (e2 mGe (eLoc 2) (eL mLen (ac (eLoc 4) lNil)))) (cS (eLoc 1)))))
 (ai (sFor (itV (eLoc 5)) (aT 6)
  (ai (sIf (nc mLe mLt (eC (.int 0)) (eLoc 6) (eL mLen (ac (eLoc 2) lNil)))
  (ai (aL (aw (au 204 "leak") aA (eLoc 0) (ac (aw (au 204 "tokens_of") az (eLoc 0) (ac (e2 ah (eLoc 2) (eLoc 6)) lNil)) lNil)))
 sNil)
  sNil)
 sNil))
 sNil))))))
noncomputable def cf : List V → OM V := mFn 4 9 [] fM
theorem f6 (C : Cx) : OpC C 12 182 cf := by
 refine fn_K rfl (b4 fun ξ ξ ξ ξ => rfl) rfl ?_
 exact xC (xE (aP (oL 0) (pG C) (lC (al (lC (ao (lC sS (lC (oL 3) lN))) lN)) (lC (aP (oL 0) (dW C) (lC (oL 2 rfl (.inr (.inl rfl))) lN) rfl (fQ (bT C)) (fun ξ => rfl)) lN)) rfl (fQ (d4 C)) (fun ξ => rfl))) (xC (nu (i := 4) (bH (ay (oL 0) (at_summaries C) (fun ξ => rfl)) cR PySem.F.plainAttrs_dict PySem.F.slot_dict_get PySem.F.type_dict_get (lC (oL 1) lN) rfl ir (fun ξ => rfl) rfl rfl) rfl (.inr rfl) (fun ξ => rfl)) (xC (aN (cB (oL 4 rfl (.inr (.inl rfl))) gy op_is) (xC (xE (aP (oL 0) (fC C) (lC (aP (oL 0) (dW C) (lC (oL 2 rfl (.inr (.inl rfl))) lN) rfl (fQ (bT C)) (fun ξ => rfl)) lN) rfl (fQ (bf C)) (fun ξ => rfl))) (xC fJ xN)) xN) (xC (xE (aP (oL 0) (mh C) (lC (oL 4 rfl (.inr (.inl rfl))) (lC (oL 2 rfl (.inr (.inl rfl))) (lC (al lN) lN))) rfl (fQ (eI C)) (fun ξ => rfl))) (xC (eO (i := 5) (fun ξ => ⟨_, fun ξ => rfl⟩) rfl (fun ξ ξ ξ => j5 _ _ _ _ _ _ _ _ _ _ _ _) (fun ξ ξ ξ => lK _ _ _ _ _ _ _ _ _ _ _ _) (by kernel_rfl) rfl (aQ (cG bL (lC (ay (oL 4 rfl (.inr (.inl rfl))) (jg C) (fun ξ => rfl)) lN) aI bC)) (aJ (X := false) (i := 1) rfl rfl) b6 (qs (fun ξ ξ ξ => j4 _ _ _ _ _ _ _ _ _ _ _ _) (fun ξ ξ ξ => lJ _ _ _ _ _ _ _ _ _ _ _ _) (aQ (iT (ay (oL 3 rfl (.inr (.inl rfl))) (jg C) (fun ξ => rfl)) (oL 1))) (aJ (X := false) (i := 2) rfl rfl) b6 (bF (oL 2)) aZ (fun ξ ξ => rfl)) aZ (fun ξ ξ => rfl) rfl (fun env h => by cases env; cases h; kernel_rfl)) (xC (xS 5 (aM (oL 5) (c8 (fun ξ => ⟨_, rfl⟩) rfl (fun ξ ξ ξ => bW _ _ _ _ _ _ _ _ _) (fun ξ ξ ξ => ck _ _ _ _ _ _ _ _ _) (by kernel_rfl) rfl (aQ (cG bL (lC (ay (oL 4 rfl (.inr (.inl rfl))) (at_kept C) (fun ξ => rfl)) lN) aI bC)) (cn (X := false) (i := 1) (j := 2) rfl rfl rfl rfl) (fI (cB (oL 2) (cG bL (lC (oL 4 rfl (.inr (.inl rfl))) lN) aI cF) op_ge)) (bF (oL 1)) aZ (fun ξ ξ => rfl)) cw)) (xC (xF (aQ (oL 5)) (aJ (X := true) (i := 6) rfl rfl) (xC (aN (j7 sI (oL 6) (cG bL (lC (oL 2 rfl (.inr (.inl rfl))) lN) aI cF) op_le ku (fun ξ => rfl)) (xC (xE (aP (oL 0) (fC C) (lC (aP (oL 0) (dH C) (lC (iT (oL 2 rfl (.inr (.inl rfl))) (oL 6)) lN) rfl (fQ (bo C)) (fun ξ => rfl)) lN) rfl (fQ (bf C)) (fun ξ => rfl))) xN) xN) xN) aZ) xN))))))
noncomputable def fu : SM :=
 ai (fN (eX 3 4) (eIf (bV (e2 mEq (eLoc 1) (eC (.str "call")))) (av (ac (e2 ah (eLoc 2) (eC (.int 2))) (ac (e2 ah (eLoc 2) (eC (.int 3))) lNil))) (av (ac (e2 ah (eLoc 2) (eC (.int 1))) (ac (e2 ah (eLoc 2) (eC (.int 2))) lNil)))))
 (ai (sSet 5 (eIf (bV (e2 mEq (eLoc 1) (eC (.str "call")))) (eL eG (ac (e2 ah (eLoc 2) (eC (.int 1))) lNil)) (am lNil)))
 (ai (sSet 6 (eIf (bAnd (bV (e2 mEq (e2 ah (eLoc 3) (eC (.int 0))) (eC (.str "fn")))) (bAnd (bV (e2 mNe (eLoc 1) (eC (.str "go")))) (eC true))) (aw eM mGet (e1 (aG 204 "summaries") (eLoc 0)) (ac (e2 ah (eLoc 3) (eC (.int 1))) lNil)) (eC .none)))
 (ai (sIf (bV (e2 (mIs true) (eLoc 6) (eC .none)))
  (ai (aL (aw (au 204 "follow") br (eLoc 0) (ac (eLoc 6) (ac (eLoc 4) (ac (eLoc 5) lNil)))))
 (ai iR
 sNil))
  sNil)
 (ai (aL (aw (au 204 "leak") aA (eLoc 0) (ac (aw (au 204 "tokens_of_all") aH (eLoc 0) (ac (eLoc 4) lNil)) lNil)))
 (ai (sIf (bOr (bAnd (bV (e2 mEq (eLoc 1) (eC (.str "go")))) (bAnd (bV (e2 mNe (e2 ah (eLoc 3) (eC (.int 0))) (eC (.str "fn")))) (eC true))) (bOr (bV (e2 mEq (e2 ah (eLoc 3) (eC (.int 0))) (eC (.str "face")))) (eC false)))
  (ai (aL (aw (au 204 "leak") aA (eLoc 0) (ac (aw (au 204 "tokens_of") az (eLoc 0) (ac (e2 ah (eLoc 3) (eC (.int 1))) lNil)) lNil)))
 sNil)
  sNil)
 (ai (sFor (itV (eLoc 5)) (aT 7)
  (ai (aL (aw (au 204 "give") aX (eLoc 0) (ac (eLoc 7) (ac (am (ac (eC (.tup [.str "beyond"])) lNil)) lNil))))
 sNil))
 sNil))))))
noncomputable def bv : List V → OM V := mFn 3 10 [] fu
theorem c6 (C : Cx) : OpC C 12 196 bv := by
 refine fn_K rfl (b3 fun ξ ξ ξ => rfl) rfl ?_
 exact xC (g5 (a5 (cB (oL 1) sS bD) (ao (lC (iT (oL 2) sI) (lC (iT (oL 2) sI) lN))) (ao (lC (iT (oL 2) sI) (lC (iT (oL 2) sI) lN)))) (cn (X := true) (i := 3) (j := 4) rfl rfl rfl rfl) (fun ξ => rfl) (fun env h => by cases env; cases h; kernel_rfl)) (xC (xS 5 (a5 (cB (oL 1) sS bD) (cG bL (lC (iT (oL 2) sI) lN) bR gh) (al lN))) (xC (xS 6 (a5 (eU (fL (cB (iT (oL 3) sI) sS bD) (fL (cB (oL 1) sS fR) fK))) (bH (ay (oL 0) (at_summaries C) (fun ξ => rfl)) cR PySem.F.plainAttrs_dict PySem.F.slot_dict_get PySem.F.type_dict_get (lC (iT (oL 3) sI) lN) rfl ir (fun ξ => rfl) rfl rfl) gy)) (xC (aN (cB (oL 6) gy nO) (xC (xE (aP (oL 0) (mh C) (lC (oL 6) (lC (oL 4) (lC (oL 5) lN))) rfl (fQ (eI C)) (fun ξ => rfl))) (xC fJ xN)) xN) (xC (xE (aP (oL 0) (fC C) (lC (aP (oL 0) (dW C) (lC (oL 4) lN) rfl (fQ (bT C)) (fun ξ => rfl)) lN) rfl (fQ (bf C)) (fun ξ => rfl))) (xC (aN (eU (g6 (eU (fL (cB (oL 1) sS bD) (fL (cB (iT (oL 3) sI) sS fR) fK))) (g6 (cB (iT (oL 3) sI) sS bD) fK))) (xC (xE (aP (oL 0) (fC C) (lC (aP (oL 0) (dH C) (lC (iT (oL 3) sI) lN) rfl (fQ (bo C)) (fun ξ => rfl)) lN) rfl (fQ (bf C)) (fun ξ => rfl))) xN) xN) (xC (xF (aQ (oL 5)) (aJ (X := true) (i := 7) rfl rfl) (xC (xE (aP (oL 0) (mX C) (lC (oL 7) (lC (al (lC (cE (by kernel_rfl) (by kernel_rfl) (by kernel_rfl) (dp C)) lN)) lN)) rfl (fQ (dL C)) (fun ξ => rfl))) xN) aZ) xN))))))
noncomputable def iL : SM :=
 ai (sRet (e2 mAdd (e2 mAdd (eL mLen (ac (e1 (aG 54 "leaks") (eLoc 0)) lNil)) (eL mLen (ac (e1 (aG 54 "kept") (eLoc 0)) lNil))) (eL mSum (ac (cQ (pL (e1 (aG 54 "told") (eLoc 0))) [none, none, none] (aT 1) (eC true) (cS (eL mLen (ac (eLoc 1) lNil)))) lNil))))
 sNil
noncomputable def dI : List V → OM V := mFn 1 3 [] iL
theorem jb (C : Cx) : OpC C 6 213 dI := by
 refine fn_K rfl (b1 fun ξ => rfl) rfl ?_
 exact xC (a7 (aM (aM (cG bL (lC (ay (oL 0) (at_leaks C) (fun ξ => rfl)) lN) aI cF) (cG bL (lC (ay (oL 0) (at_kept C) (fun ξ => rfl)) lN) aI cF) cw) (cG bL (lC (c8 (fun ξ => ⟨_, rfl⟩) rfl (fun ξ ξ ξ => bW _ _ _ _ _ _ _ _ _) (fun ξ ξ ξ => ck _ _ _ _ _ _ _ _ _) (by kernel_rfl) rfl (oT (ay (oL 0) (jg C) (fun ξ => rfl)) (fun ξ => rfl) rfl) (aJ (X := false) (i := 1) rfl rfl) b6 (bF (cG bL (lC (oL 1) lN) aI cF)) to_vals (fun ξ ξ => rfl)) lN) aI o6) cw)) xN
noncomputable def nA : SM :=
 ai (ba 250 "key" (eLoc 0) (eLoc 1))
 (ai (ba 250 "params" (eLoc 0) (eLoc 2))
 (ai (ba 250 "registers" (eLoc 0) (eL eG (ac (eLoc 3) lNil)))
 (ai (ba 250 "blocks" (eLoc 0) (eLoc 4))
 (ai (ba 250 "captured" (eLoc 0) (eLoc 5))
 (ai (ba 250 "results" (eLoc 0) (eLoc 6))
 (ai (ba 250 "recovery" (eLoc 0) (eLoc 7))
 sNil))))))
noncomputable def jL : List V → OM V := mFn 5 9 [.int 0, .int 0, .none] nA
theorem oB (C : Cx) : OpC C 6 228 jL := by
 refine fn_op (k := 5) (n := 5) (dv := [.int 0, .int 0, .none]) (dr := [.int 0 494, .int 0 495, .none]) ⟨⟨_, _, _, (rfl : List.lookup 228 C.K = some _)⟩, rfl, rfl, rfl, rfl, by kernel_rfl, rfl, rfl, rfl, by decide, by decide, rfl, rfl, fun ξ ξ => .cons ⟨_, rfl⟩ (.cons ⟨_, rfl⟩ (.cons rfl .nil)), fun s vals X h => by obtain ⟨ξ, ξ, ξ, ξ, ξ, rfl⟩ := len5 h; exact .of_defaults (T := 221) rfl (X 221 _ (rfl : List.lookup 221 C.K = some _)) rfl rfl rfl⟩ rfl ?_
 exact xC (xA (oL 1) (oL 0) (st_key C)) (xC (xA (oL 2) (oL 0) (qD C)) (xC (xA (cG bL (lC (oL 3) lN) bR gh) (oL 0) (mM C)) (xC (xA (oL 4) (oL 0) (qF C)) (xC (xA (oL 5) (oL 0) (nn C)) (xC (xA (oL 6) (oL 0) (oR C)) (xC (xA (oL 7) (oL 0) (nk C)) xN))))))
noncomputable def nw : SM :=
 ai (sSet 1 (eIf (bV (e2 mGt (eL mLen (ac (eLoc 0) lNil)) (eC (.int 0)))) (e2 ah (eLoc 0) (eC (.int 0))) (eC (.int 0))))
 (ai (sSet 2 (eIf (bV (e2 mGe (eLoc 1) (eC (.int 0)))) (eLoc 1) (e2 mSub (e1 mNeg (eC (.int 1))) (eLoc 1))))
 (ai (sRet (am (ac (eIf (bV (e2 mGe (eLoc 2) (eC (.int (10 ^ 18))))) (eLoc 2) (eC (.int 0))) (ac (e2 mMod (e2 mMul (e2 mAdd (e2 mMod (eLoc 2) (eC (.int 2147483629))) (eC (.int 17))) (eC (.int 48271))) (eC (.int 2147483647))) lNil))))
 sNil))
noncomputable def gI : List V → OM V := mFn 1 4 [] nw
theorem oA (C : Cx) : OpC C 6 261 gI := by
 refine fn_K rfl (b1 fun ξ => rfl) rfl ?_
 exact xC (xS 1 (a5 (cB (cG bL (lC (oL 0) lN) aI cF) sI op_gt) (iT (oL 0) sI) sI)) (xC (xS 2 (a5 (cB (oL 1) sI op_ge) (oL 1) (aM (df sI) (oL 1) op_sub))) (xC (a7 (al (lC (a5 (cB (oL 2) sim_pow op_ge) (oL 2) sI) (lC (aM (aM (aM (aM (oL 2) sI jp) sI cw) sI pc) sI jp) lN)))) xN))
noncomputable def nz : SM :=
 ai (sIf (bV (e2 mGt (e2 ah (eLoc 0) (eC (.int 0))) (eC (.int 0))))
  (ai (sSet 2 (e2 mMod (e2 ah (eLoc 0) (eC (.int 0))) (eLoc 1)))
 (ai (bI (eLoc 0) (eC (.int 0)) (e2 mDiv (e2 ah (eLoc 0) (eC (.int 0))) (eLoc 1)))
 (ai (sRet (eLoc 2))
 sNil)))
  sNil)
 (ai (bI (eLoc 0) (eC (.int 1)) (e2 mMod (e2 mAdd (e2 mMul (e2 ah (eLoc 0) (eC (.int 1))) (eC (.int 39373))) (eC (.int 7))) (eC (.int 2147483647))))
 (ai (sRet (e2 mMod (e2 mDiv (e2 mMod (e2 mMul (e2 ah (eLoc 0) (eC (.int 1))) (e2 ah (eLoc 0) (eC (.int 1)))) (eC (.int 2147483629))) (eC (.int 32))) (eLoc 1)))
 sNil))
noncomputable def cH : List V → OM V := mFn 2 3 [] nz
theorem fE (C : Cx) : OpC C 6 268 cH := by
 refine fn_K rfl (b2 fun ξ ξ => rfl) rfl ?_
 exact xC (aN (cB (iT (oL 0) sI) sI op_gt) (xC (xS 2 (aM (iT (oL 0) sI) (oL 1) jp)) (xC (bm (aM (iT (oL 0) sI) (oL 1) op_div) (oL 0) sI (fun ξ => rfl)) (xC (a7 (oL 2)) xN))) xN) (xC (bm (aM (aM (aM (iT (oL 0) sI) sI pc) sI cw) sI jp) (oL 0) sI (fun ξ => rfl)) (xC (a7 (aM (aM (aM (aM (iT (oL 0) sI) (iT (oL 0) sI) pc) sI jp) sI op_div) (oL 1) jp)) xN))
noncomputable def qQ : SM :=
 ai (sRet (e2 ah (eLoc 1) (eL cH (ac (eLoc 0) (ac (eL mLen (ac (eLoc 1) lNil)) lNil)))))
 sNil
noncomputable def jz : List V → OM V := mFn 2 4 [] qQ
theorem rF (C : Cx) : OpC C 7 275 jz := by
 refine fn_K rfl (b2 fun ξ ξ => rfl) rfl ?_
 exact xC (a7 (iT (oL 1) (cG gL (lC (oL 0) (lC (cG bL (lC (oL 1) lN) aI cF) lN)) kR (fQ (fE C))))) xN
noncomputable def oX : SM :=
 ai (sSet 1 (eL (gu 250 jL) (ac (eC (.str "m.f")) (ac (eC (.int 2)) (ac (e2 kY (am (ac (av (ac (eC (.str "ptr")) (ac (av (ac (eC (.str "int")) (ac (eC (.str "int")) lNil))) lNil))) lNil)) (eC (.int 8))) (ac (am (ac (am (ac (am lNil) (ac (av (ac (eC (.str "return")) (ac (av lNil) lNil))) lNil))) lNil)) lNil))))))
 (ai (sRet (eL (gu 204 fD) (ac (eLoc 1) (ac (cP (bd (eC (.str "k")) (eLoc 0) dK)) lNil))))
 sNil)
noncomputable def ff : List V → OM V := mFn 1 4 [] oX
theorem pO (C : Cx) : OpC C 10 282 ff := by
 refine fn_K rfl (b1 fun ξ => rfl) rfl ?_
 exact xC (xS 1 (cG gL (lC sS (lC sI (lC (aM (al (lC (ao (lC sS (lC (ao (lC sS (lC sS lN))) lN))) lN)) sI p8) (lC (al (lC (al (lC (al lN) (lC (ao (lC sS (lC (ao lN) lN))) lN))) lN)) lN)))) kR (OpL.le (jU (by kernel_rfl) (by kernel_rfl) (by kernel_rfl) (oB C)) (by decide)))) (xC (a7 (cG gL (lC (oL 1) (lC (dN (aU sS (oL 0) dQ) (fun ξ => rfl) rfl) lN)) kR (OpL.le (jU (by kernel_rfl) (by kernel_rfl) (by kernel_rfl) (jd C)) (by decide)))) xN)
noncomputable def qS : SM :=
 ai (sFor (itV (eLoc 1)) (aT 2)
  (ai (sIf (bV (e2 (mIn true) (eLoc 2) (eLoc 0)))
  (ai (aL (aw im eS (eLoc 0) (ac (eLoc 2) lNil)))
 sNil)
  sNil)
 sNil))
 sNil
noncomputable def bq : List V → OM V := mFn 2 3 [] qS
theorem dZ (C : Cx) : OpC C 6 289 bq := by
 refine fn_K rfl (b2 fun ξ ξ => rfl) rfl ?_
 exact xC (xF (aQ (oL 1)) (aJ (X := true) (i := 2) rfl rfl) (xC (aN (cB (oL 2) (oL 0) kr) (xC (xE (bH (oL 0) gU PySem.F.plainAttrs_list PySem.F.slot_list_append PySem.F.type_list_append (lC (oL 2) lN) rfl jq (fun ξ => rfl) rfl rfl)) xN) xN) xN) aZ) xN
noncomputable def qR : SM :=
 ai (fN (ip 2 3) (av (ac (eL eG (ac (eLoc 1) lNil)) (ac (eC (.int 0)) lNil))))
 (ai (eZ (bV (e2 mLt (eLoc 3) (eL mLen (ac (eLoc 2) lNil))))
  (ai (fN (eX 4 3) (av (ac (e2 ah (eLoc 2) (eLoc 3)) (ac (e2 mAdd (eLoc 3) (eC (.int 1))) lNil))))
 (ai (sIf (bV (e2 mEq (e2 ah (eLoc 4) (eC (.int 0))) (eC (.str "site"))))
  (ai (aL (eL bq (ac (eLoc 2) (ac (e2 mAdd (aw eM mGet (e2 ah (eLoc 0) (eC (.str "inside"))) (ac (e2 ah (eLoc 4) (eC (.int 1))) (ac (am lNil) lNil))) (e2 kY (am (ac (av (ac (eC (.str "beyond")) lNil)) lNil)) (eL mInt (ac (e2 (mIn false) (e2 ah (eLoc 4) (eC (.int 1))) (e2 ah (eLoc 0) (eC (.str "gone")))) lNil)))) lNil))))
 sNil)
  sNil)
 (ai (sIf (bV (e2 mEq (e2 ah (eLoc 4) (eC (.int 0))) (eC (.str "outer"))))
  (ai (sSet 5 (cQ (itV (e2 ah (eLoc 0) (eC (.str "kept")))) [none, none, none, some 4] (eX 1 2) (bV (e2 mEq (eLoc 2) (e2 ah (eLoc 3) (eC (.int 1))))) (cS (eLoc 1))))
 (ai (aL (eL bq (ac (eLoc 2) (ac (cQ (itV (eLoc 5)) [none, none] (aT 1) (eC true) (cS (eIf (bV (e2 mEq (eLoc 1) (e1 mNeg (eC (.int 1))))) (av (ac (eC (.str "beyond")) lNil)) (av (ac (eC (.str "outer")) (ac (eLoc 1) lNil)))))) lNil))))
 sNil))
  sNil)
 sNil))))
 (ai (sRet (eLoc 2))
 sNil))
noncomputable def dX : List V → OM V := mFn 2 10 [] qR
theorem jC (C : Cx) : OpC C 7 294 dX := by
 refine fn_K rfl (b2 fun ξ ξ => rfl) rfl ?_
 exact xC (gc (i := 2) (j := 3) (ao (lC (cG bL (lC (oL 1) lN) bR gh) (lC sI lN))) rfl rfl (fun ξ => rfl) (fun env h => by cases env; cases h; kernel_rfl)) (xC (gb (cB (oL 3) (cG bL (lC (oL 2) lN) aI cF) ku) (xC (g5 (ao (lC (iT (oL 2) (oL 3)) (lC (aM (oL 3) sI cw) lN))) (cn (X := true) (i := 4) (j := 3) rfl rfl rfl rfl) (fun ξ => rfl) (fun env h => by cases env; cases h; kernel_rfl)) (xC (aN (cB (iT (oL 4 rfl (.inr (.inl rfl))) sI) sS bD) (xC (xE (cG gL (lC (oL 2) (lC (aM (bH (iT (oL 0) sS) cR PySem.F.plainAttrs_dict PySem.F.slot_dict_get PySem.F.type_dict_get (lC (iT (oL 4 rfl (.inr (.inl rfl))) sI) (lC (al lN) lN)) rfl ir (fun ξ => rfl) rfl rfl) (aM (al (lC (ao (lC sS lN)) lN)) (cG bL (lC (cM (iT (oL 4 rfl (.inr (.inl rfl))) sI) (iT (oL 0) sS) gD) lN) bR nP) p8) cw) lN)) kR (fQ (dZ C)))) xN) xN) (xC (aN (cB (iT (oL 4 rfl (.inr (.inl rfl))) sI) sS bD) (xC (eO (i := 5) (fun ξ => ⟨_, fun ξ => rfl⟩) rfl (fun ξ ξ ξ => bW _ _ _ _ _ _ _ _ _) (fun ξ ξ ξ => ck _ _ _ _ _ _ _ _ _) (by kernel_rfl) rfl (aQ (iT (oL 0) sS)) (cn (X := false) (i := 1) (j := 2) rfl rfl rfl rfl) (fI (cB (oL 2) (iT (oL 3 rfl (.inr (.inl rfl))) sI) bD)) (bF (oL 1)) aZ (fun ξ ξ => rfl) rfl (fun env h => by cases env; cases h; kernel_rfl)) (xC (xE (cG gL (lC (oL 2) (lC (c8 (fun ξ => ⟨_, rfl⟩) rfl (fun ξ ξ ξ => bW _ _ _ _ _ _ _ _ _) (fun ξ ξ ξ => ck _ _ _ _ _ _ _ _ _) (by kernel_rfl) rfl (aQ (oL 5)) (aJ (X := false) (i := 1) rfl rfl) b6 (bF (a5 (cB (oL 1) (df sI) bD) (ao (lC sS lN)) (ao (lC sS (lC (oL 1) lN))))) aZ (fun ξ ξ => rfl)) lN)) kR (fQ (dZ C)))) xN)) xN) xN)))) (xC (a7 (oL 2)) xN))
noncomputable def qP : SM :=
 ai (sFor (itV (eL dX (ac (eLoc 0) (ac (eLoc 1) lNil)))) (aT 2)
  (ai (sIf (bV (e2 mNe (e2 ah (eLoc 2) (eC (.int 0))) (eC (.str "beyond"))))
  (ai (aL (eL bq (ac (e2 ah (eLoc 0) (eIf (bV (e2 mEq (e2 ah (eLoc 2) (eC (.int 0))) (eC (.str "site")))) (eC (.str "gone")) (eC (.str "leaks")))) (ac (am (ac (e2 ah (eLoc 2) (eC (.int 1))) lNil)) lNil))))
 sNil)
  sNil)
 sNil))
 sNil
noncomputable def cW : List V → OM V := mFn 2 5 [] qP
theorem eV (C : Cx) : OpC C 8 301 cW := by
 refine fn_K rfl (b2 fun ξ ξ => rfl) rfl ?_
 exact xC (xF (aQ (cG gL (lC (oL 0) (lC (oL 1) lN)) kR (fQ (jC C)))) (aJ (X := true) (i := 2) rfl rfl) (xC (aN (cB (iT (oL 2) sI) sS fR) (xC (xE (cG gL (lC (iT (oL 0) (a5 (cB (iT (oL 2) sI) sS bD) sS sS)) (lC (al (lC (iT (oL 2) sI) lN)) lN)) kR (fQ (dZ C)))) xN) xN) xN) aZ) xN
noncomputable def oW : SM :=
 ai (sFor (itV (eLoc 1)) (aT 3)
  (ai (sIf (bV (e2 mEq (e2 ah (eLoc 3) (eC (.int 0))) (eC (.str "site"))))
  (ai (aL (eL bq (ac (aw eM d8 (e2 ah (eLoc 0) (eC (.str "inside"))) (ac (e2 ah (eLoc 3) (eC (.int 1))) (ac (am lNil) lNil))) (ac (eLoc 2) lNil))))
 sNil)
  sNil)
 (ai (sIf (bV (e2 mEq (e2 ah (eLoc 3) (eC (.int 0))) (eC (.str "outer"))))
  (ai (sSet 4 (eL dX (ac (eLoc 0) (ac (eLoc 2) lNil))))
 (ai (aL (eL cW (ac (eLoc 0) (ac (cQ (itV (eLoc 4)) [none, none] (aT 1) (bV (e2 mEq (e2 ah (eLoc 1) (eC (.int 0))) (eC (.str "site")))) (cS (eLoc 1))) lNil))))
 (ai (aL (eL bq (ac (e2 ah (eLoc 0) (eC (.str "kept"))) (ac (cQ (itV (eLoc 4)) [none, none, some 3] (aT 1) (eC true) (cS (av (ac (eIf (bV (e2 mEq (e2 ah (eLoc 1) (eC (.int 0))) (eC (.str "outer")))) (e2 ah (eLoc 1) (eC (.int 1))) (e1 mNeg (eC (.int 1)))) (ac (e2 ah (eLoc 2) (eC (.int 1))) lNil))))) lNil))))
 sNil)))
  sNil)
 (ai (sIf (bOr (bV (e2 mEq (e2 ah (eLoc 3) (eC (.int 0))) (eC (.str "beyond")))) (bOr (bAnd (bV (e2 mEq (e2 ah (eLoc 3) (eC (.int 0))) (eC (.str "site")))) (bAnd (bV (e2 (mIn false) (e2 ah (eLoc 3) (eC (.int 1))) (e2 ah (eLoc 0) (eC (.str "gone"))))) (eC true))) (eC false)))
  (ai (aL (eL cW (ac (eLoc 0) (ac (eLoc 2) lNil))))
 sNil)
  sNil)
 sNil))))
 sNil
noncomputable def fe : List V → OM V := mFn 3 8 [] oW
theorem lp (C : Cx) : OpC C 9 306 fe := by
 refine fn_K rfl (b3 fun ξ ξ ξ => rfl) rfl ?_
 exact xC (xF (aQ (oL 1)) (aJ (X := true) (i := 3) rfl rfl) (xC (aN (cB (iT (oL 3 rfl (.inr (.inl rfl))) sI) sS bD) (xC (xE (cG gL (lC (bH (iT (oL 0) sS) cR PySem.F.plainAttrs_dict PySem.F.slot_dict_setdefault PySem.F.type_dict_setdefault (lC (iT (oL 3 rfl (.inr (.inl rfl))) sI) (lC (al lN) lN)) rfl g9 (fun ξ => rfl) rfl rfl) (lC (oL 2) lN)) kR (fQ (dZ C)))) xN) xN) (xC (aN (cB (iT (oL 3 rfl (.inr (.inl rfl))) sI) sS bD) (xC (xS 4 (cG gL (lC (oL 0) (lC (oL 2) lN)) kR (fQ (jC C)))) (xC (xE (cG gL (lC (oL 0) (lC (c8 (fun ξ => ⟨_, rfl⟩) rfl (fun ξ ξ ξ => bW _ _ _ _ _ _ _ _ _) (fun ξ ξ ξ => ck _ _ _ _ _ _ _ _ _) (by kernel_rfl) rfl (aQ (oL 4)) (aJ (X := false) (i := 1) rfl rfl) (fI (cB (iT (oL 1) sI) sS bD)) (bF (oL 1)) aZ (fun ξ ξ => rfl)) lN)) kR (fQ (eV C)))) (xC (xE (cG gL (lC (iT (oL 0) sS) (lC (c8 (fun ξ => ⟨_, rfl⟩) rfl (fun ξ ξ ξ => bW _ _ _ _ _ _ _ _ _) (fun ξ ξ ξ => ck _ _ _ _ _ _ _ _ _) (by kernel_rfl) rfl (aQ (oL 4)) (aJ (X := false) (i := 1) rfl rfl) b6 (bF (ao (lC (a5 (cB (iT (oL 1) sI) sS bD) (iT (oL 1) sI) (df sI)) (lC (iT (oL 2 rfl (.inr (.inl rfl))) sI) lN)))) aZ (fun ξ ξ => rfl)) lN)) kR (fQ (dZ C)))) xN))) xN) (xC (aN (eU (g6 (cB (iT (oL 3 rfl (.inr (.inl rfl))) sI) sS bD) (g6 (eU (fL (cB (iT (oL 3 rfl (.inr (.inl rfl))) sI) sS bD) (fL (cB (iT (oL 3 rfl (.inr (.inl rfl))) sI) (iT (oL 0) sS) gD) fK))) fK))) (xC (xE (cG gL (lC (oL 0) (lC (oL 2) lN)) kR (fQ (eV C)))) xN) xN) xN))) aZ) xN
noncomputable def j9 : SM :=
 ai (sSet 5 (cQ (itV (eLoc 2)) [none, none, none, some 0] (aT 1) (eC true) (cS (eL dX (ac (eLoc 3) (ac (e2 ah (e2 ah (eLoc 3) (eC (.str "held"))) (eLoc 1)) lNil))))))
 (ai (sFor (itV (e2 ah (eLoc 1) (eC (.str "leaks")))) (aT 4)
  (ai (sIf (bV (e2 mLt (eLoc 4) (eC (.int 2))))
  (ai (aL (eL cW (ac (eLoc 0) (ac (e2 ah (eLoc 5) (eLoc 4)) lNil))))
 sNil)
  sNil)
 sNil))
 (ai (sFor (itV (e2 ah (eLoc 1) (eC (.str "kept")))) (eX 6 7)
  (ai (sIf (bV (e2 mLt (eLoc 7) (eC (.int 2))))
  (ai (aL (eL fe (ac (eLoc 0) (ac (e2 ah (eLoc 5) (eLoc 7)) (ac (eIf (bV (e2 (mIn false) (eLoc 6) (am (ac (eC (.int 0)) (ac (eC (.int 1)) lNil))))) (e2 ah (eLoc 5) (eLoc 6)) (am (ac (av (ac (eC (.str "beyond")) lNil)) lNil))) lNil)))))
 sNil)
  sNil)
 sNil))
 (ai (sFor (itL jM (ac (eLoc 3) lNil)) (eX 8 9)
  (ai (sFor (itV (e2 ah (e2 ah (eLoc 1) (eC (.str "told"))) (eLoc 8))) (aT 4)
  (ai (aL (eL bq (ac (e2 ah (e2 ah (eLoc 0) (eC (.str "held"))) (eLoc 9)) (ac (eIf (bV (e2 mEq (eLoc 4) (e1 mNeg (eC (.int 1))))) (am (ac (av (ac (eC (.str "beyond")) lNil)) lNil)) (e2 ah (eLoc 5) (eLoc 4))) lNil))))
 sNil))
 sNil))
 sNil)))
noncomputable def cc : List V → OM V := mFn 4 14 [] j9
theorem gN (C : Cx) : OpC C 10 311 cc := by
 refine fn_K rfl (b4 fun ξ ξ ξ ξ => rfl) rfl ?_
 exact xC (eO (i := 5) (fun ξ => ⟨_, fun ξ => rfl⟩) rfl (fun ξ ξ ξ => bW _ _ _ _ _ _ _ _ _) (fun ξ ξ ξ => ck _ _ _ _ _ _ _ _ _) (by kernel_rfl) rfl (aQ (oL 2)) (aJ (X := false) (i := 1) rfl rfl) b6 (bF (cG gL (lC (oL 3 rfl (.inr (.inl rfl))) (lC (iT (iT (oL 3 rfl (.inr (.inl rfl))) sS) (oL 1)) lN)) kR (fQ (jC C)))) aZ (fun ξ ξ => rfl) rfl (fun env h => by cases env; cases h; kernel_rfl)) (xC (xF (aQ (iT (oL 1) sS)) (aJ (X := true) (i := 4) rfl rfl) (xC (aN (cB (oL 4) sI ku) (xC (xE (cG gL (lC (oL 0 rfl (.inr (.inl rfl))) (lC (iT (oL 5) (oL 4)) lN)) kR (fQ (eV C)))) xN) xN) xN) aZ) (xC (xF (aQ (iT (oL 1) sS)) (cn (X := true) (i := 6) (j := 7) rfl rfl rfl rfl) (xC (aN (cB (oL 7) sI ku) (xC (xE (cG gL (lC (oL 0 rfl (.inr (.inl rfl))) (lC (iT (oL 5) (oL 7)) (lC (a5 (cB (oL 6) (al (lC sI (lC sI lN))) gD) (iT (oL 5) (oL 6)) (al (lC (ao (lC sS lN)) lN))) lN))) kR (fQ (lp C)))) xN) xN) xN) aZ) (xC (xF (j6 bL (lC (oL 3) lN) rfl) (cn (X := true) (i := 8) (j := 9) rfl rfl rfl rfl) (xC (xF (aQ (iT (iT (oL 1) sS) (oL 8))) (aJ (X := true) (i := 4) rfl rfl) (xC (xE (cG gL (lC (iT (iT (oL 0 rfl (.inr (.inl rfl))) sS) (oL 9)) (lC (a5 (cB (oL 4) (df sI) bD) (al (lC (ao (lC sS lN)) lN)) (iT (oL 5) (oL 4))) lN)) kR (fQ (dZ C)))) xN) aZ) xN) pZ) xN)))
noncomputable def oY : SM :=
 ai (fN (eX 3 4) (eLoc 2))
 (ai (sSet 5 (e2 mAdd (e2 ah (e2 ah (eLoc 0) (eC (.str "held"))) (e2 ah (eLoc 4) (eC (.int 0)))) (e2 ah (e2 ah (eLoc 0) (eC (.str "held"))) (e2 ah (eLoc 4) (eC (.int 1))))))
 (ai (sIf (bV (e2 (mIn false) (eLoc 3) (am (ac (eC (.str "call")) (ac (eC (.str "defer")) lNil)))))
  (ai (aL (eL cc (ac (eLoc 0) (ac (eLoc 1) (ac (eLoc 4) (ac (eIf (bV (e2 mEq (eLoc 3) (eC (.str "call")))) (am (ac (eC (.int 6)) (ac (eC (.int 7)) lNil))) (am lNil)) lNil))))))
 (ai iR
 sNil))
  sNil)
 (ai (sIf (bV (e2 (mIn false) (eLoc 3) (am (ac (eC (.str "literal")) (ac (eC (.str "strange literal")) lNil)))))
  (ai (aL (eL fe (ac (eLoc 0) (ac (am (ac (av (ac (eC (.str "site")) (ac (eC (.str "d")) lNil))) lNil)) (ac (eLoc 5) lNil)))))
 (ai (sIf (bV (e2 mEq (eLoc 3) (eC (.str "strange literal"))))
  (ai (aL (eL cW (ac (eLoc 0) (ac (eLoc 5) lNil))))
 (ai iR
 sNil))
  sNil)
 (ai (aL (eL cc (ac (eLoc 0) (ac (eLoc 1) (ac (eLoc 4) (ac (am lNil) lNil))))))
 (ai (sSet 6 (e2 mAdd (e2 mAdd (e2 ah (e2 ah (eLoc 1) (eC (.str "told"))) (eC (.int 0))) (e2 ah (e2 ah (eLoc 1) (eC (.str "told"))) (eC (.int 1)))) (cQ (itV (e2 ah (eLoc 1) (eC (.str "kept")))) [none, none, none] (eX 1 2) (bV (e2 mGt (eLoc 2) (eC (.int 1)))) (cS (eLoc 1)))))
 (ai (sFor (itL dJ (ac (eC (.int 2)) lNil)) (aT 7)
  (ai (sIf (bV (e2 (mIn false) (eLoc 7) (eLoc 6)))
  (ai (aL (eL cW (ac (eLoc 0) (ac (e2 ah (e2 ah (eLoc 0) (eC (.str "held"))) (e2 ah (eLoc 4) (eLoc 7))) lNil))))
 sNil)
  sNil)
 sNil))
 (ai iR
 sNil))))))
  sNil)
 (ai (aL (eL cW (ac (eLoc 0) (ac (e2 mAdd (eLoc 5) (eIf (bV (e2 (mIn false) (eLoc 3) (am (ac (eC (.str "face call")) (ac (eC (.str "value go")) lNil))))) (e2 ah (e2 ah (eLoc 0) (eC (.str "held"))) (eC (.int 3))) (am lNil))) lNil))))
 (ai (sIf (bV (e2 (mIn false) (eLoc 3) (am (ac (eC (.str "strange call")) (ac (eC (.str "face call")) (ac (eC (.str "value call")) lNil))))))
  (ai (sFor (itV (am (ac (eC (.int 6)) (ac (eC (.int 7)) lNil)))) (aT 8)
  (ai (aL (eL bq (ac (e2 ah (e2 ah (eLoc 0) (eC (.str "held"))) (eLoc 8)) (ac (am (ac (av (ac (eC (.str "beyond")) lNil)) lNil)) lNil))))
 sNil))
 sNil)
  sNil)
 sNil)))))
noncomputable def iD : List V → OM V := mFn 3 14 [] oY
theorem pP (C : Cx) : OpC C 11 316 iD := by
 refine fn_K rfl (b3 fun ξ ξ ξ => rfl) rfl ?_
 exact xC (g5 (oL 2) (cn (X := true) (i := 3) (j := 4) rfl rfl rfl rfl) (fun ξ => rfl) (fun env h => by cases env; cases h; kernel_rfl)) (xC (xS 5 (aM (iT (iT (oL 0) sS) (iT (oL 4) sI)) (iT (iT (oL 0) sS) (iT (oL 4) sI)) cw)) (xC (aN (cB (oL 3) (al (lC sS (lC sS lN))) gD) (xC (xE (cG gL (lC (oL 0) (lC (oL 1) (lC (oL 4) (lC (a5 (cB (oL 3) sS bD) (al (lC sI (lC sI lN))) (al lN)) lN)))) kR (fQ (gN C)))) (xC fJ xN)) xN) (xC (aN (cB (oL 3) (al (lC sS (lC sS lN))) gD) (xC (xE (cG gL (lC (oL 0) (lC (al (lC (ao (lC sS (lC sS lN))) lN)) (lC (oL 5) lN))) kR (fQ (lp C)))) (xC (aN (cB (oL 3) sS bD) (xC (xE (cG gL (lC (oL 0) (lC (oL 5) lN)) kR (fQ (eV C)))) (xC fJ xN)) xN) (xC (xE (cG gL (lC (oL 0) (lC (oL 1) (lC (oL 4) (lC (al lN) lN)))) kR (fQ (gN C)))) (xC (xS 6 (aM (aM (iT (iT (oL 1) sS) sI) (iT (iT (oL 1) sS) sI) cw) (c8 (fun ξ => ⟨_, rfl⟩) rfl (fun ξ ξ ξ => bW _ _ _ _ _ _ _ _ _) (fun ξ ξ ξ => ck _ _ _ _ _ _ _ _ _) (by kernel_rfl) rfl (aQ (iT (oL 1) sS)) (cn (X := false) (i := 1) (j := 2) rfl rfl rfl rfl) (fI (cB (oL 2) sI op_gt)) (bF (oL 1)) aZ (fun ξ ξ => rfl)) cw)) (xC (xF (ee bL (lC sI lN) rfl) (aJ (X := true) (i := 7) rfl rfl) (xC (aN (cB (oL 7) (oL 6) gD) (xC (xE (cG gL (lC (oL 0) (lC (iT (iT (oL 0) sS) (iT (oL 4) (oL 7))) lN)) kR (fQ (eV C)))) xN) xN) xN) j2) (xC fJ xN)))))) xN) (xC (xE (cG gL (lC (oL 0) (lC (aM (oL 5) (a5 (cB (oL 3) (al (lC sS (lC sS lN))) gD) (iT (iT (oL 0) sS) sI) (al lN)) cw) lN)) kR (fQ (eV C)))) (xC (aN (cB (oL 3) (al (lC sS (lC sS (lC sS lN)))) gD) (xC (xF (aQ (al (lC sI (lC sI lN)))) (aJ (X := true) (i := 8) rfl rfl) (xC (xE (cG gL (lC (iT (iT (oL 0) sS) (oL 8)) (lC (al (lC (ao (lC sS lN)) lN)) lN)) kR (fQ (dZ C)))) xN) aZ) xN) xN) xN)))))
noncomputable def s_law_do : SM :=
 ai (fN (eX 2 3) (eLoc 1))
 (ai (fN (ip 4 5) (av (ac (cQ (itV (eLoc 3)) [none, none] (aT 1) (eC true) (cS (av (ac (eC (.str "reg")) (ac (eLoc 1) lNil))))) (ac (av (ac (eC (.str "reg")) (ac (eC (.int 3)) lNil))) lNil))))
 (ai (sSet 6 (cP (bd (eC (.str "call")) (av (ac (eC (.str "fn")) (ac (eC (.str "k")) lNil))) (bd (eC (.str "strange call")) (av (ac (eC (.str "fn")) (ac (eC (.str "none")) lNil))) (bd (eC (.str "face call")) (av (ac (eC (.str "face")) (ac (eLoc 5) (ac (eC (.str "m")) lNil)))) (bd (eC (.str "value call")) (av (ac (eC (.str "value")) (ac (eLoc 5) lNil))) (bd (eC (.str "go")) (av (ac (eC (.str "fn")) (ac (eC (.str "k")) lNil))) (bd (eC (.str "value go")) (av (ac (eC (.str "value")) (ac (eLoc 5) lNil))) (bd (eC (.str "defer")) (av (ac (eC (.str "fn")) (ac (eC (.str "k")) lNil))) (bd (eC (.str "strange defer")) (av (ac (eC (.str "fn")) (ac (eC (.str "none")) lNil))) dK))))))))))
 (ai (sIf (bV (e2 (mIn false) (eLoc 2) (am (ac (eC (.str "literal")) (ac (eC (.str "strange literal")) lNil)))))
  (ai (aL (aw (au 204 "close_over") cf (eLoc 0) (ac (eIf (bV (e2 mEq (eLoc 2) (eC (.str "literal")))) (eC (.str "k")) (eC (.str "none"))) (ac (eLoc 4) (ac (eC (.str "d")) lNil)))))
 sNil)
  (ai (sIf (bV (e2 mEq (e2 k4 (eLoc 2) (e1 mNeg (eC (.int 4)))) (eC (.str "call"))))
  (ai (aL (aw (au 204 "look_at_call") bv (eLoc 0) (ac (eC (.str "call")) (ac (av (ac (eC (.str "call")) (ac (am (ac (eC (.int 6)) (ac (eC (.int 7)) lNil))) (ac (e2 ah (eLoc 6) (eLoc 2)) (ac (eLoc 4) lNil))))) lNil))))
 sNil)
  (ai (sSet 7 (eIf (bV (e2 mEq (e2 k4 (eLoc 2) (e1 mNeg (eC (.int 2)))) (eC (.str "go")))) (eC (.str "go")) (eC (.str "defer"))))
 (ai (aL (aw (au 204 "look_at_call") bv (eLoc 0) (ac (eLoc 7) (ac (av (ac (eLoc 7) (ac (e2 ah (eLoc 6) (eLoc 2)) (ac (eLoc 4) lNil)))) lNil))))
 sNil)))
 sNil))
 sNil)))
noncomputable def kW : List V → OM V := mFn 2 8 [] s_law_do
theorem f_law_do (C : Cx) : OpC C 13 321 kW := by
 refine fn_K rfl (b2 fun ξ ξ => rfl) rfl ?_
 exact xC (g5 (oL 1) (cn (X := true) (i := 2) (j := 3) rfl rfl rfl rfl) (fun ξ => rfl) (fun env h => by cases env; cases h; kernel_rfl)) (xC (gc (i := 4) (j := 5) (ao (lC (c8 (fun ξ => ⟨_, rfl⟩) rfl (fun ξ ξ ξ => bW _ _ _ _ _ _ _ _ _) (fun ξ ξ ξ => ck _ _ _ _ _ _ _ _ _) (by kernel_rfl) rfl (aQ (oL 3)) (aJ (X := false) (i := 1) rfl rfl) b6 (bF (ao (lC sS (lC (oL 1) lN)))) aZ (fun ξ ξ => rfl)) (lC (ao (lC sS (lC sI lN))) lN))) rfl rfl (fun ξ => rfl) (fun env h => by cases env; cases h; kernel_rfl)) (xC (xS 6 (dN (aU sS (ao (lC sS (lC sS lN))) (aU sS (ao (lC sS (lC sS lN))) (aU sS (ao (lC sS (lC (oL 5) (lC sS lN)))) (aU sS (ao (lC sS (lC (oL 5) lN))) (aU sS (ao (lC sS (lC sS lN))) (aU sS (ao (lC sS (lC (oL 5) lN))) (aU sS (ao (lC sS (lC sS lN))) (aU sS (ao (lC sS (lC sS lN))) dQ)))))))) (fun ξ => rfl) rfl)) (xC (aN (cB (oL 2) (al (lC sS (lC sS lN))) gD) (xC (xE (aP (oL 0) (lH C) (lC (a5 (cB (oL 2) sS bD) sS sS) (lC (oL 4) (lC sS lN))) rfl (fQ (f6 C)) (fun ξ => rfl))) xN) (xC (aN (cB (p9 (oL 2) (df sI) (fun ξ ξ => rfl)) sS bD) (xC (xE (aP (oL 0) (gt C) (lC sS (lC (ao (lC sS (lC (al (lC sI (lC sI lN))) (lC (iT (oL 6) (oL 2)) (lC (oL 4) lN))))) lN)) rfl (fQ (c6 C)) (fun ξ => rfl))) xN) (xC (xS 7 (a5 (cB (p9 (oL 2) (df sI) (fun ξ ξ => rfl)) sS bD) sS sS)) (xC (xE (aP (oL 0) (gt C) (lC (oL 7) (lC (ao (lC (oL 7) (lC (iT (oL 6) (oL 2)) (lC (oL 4) lN)))) lN)) rfl (fQ (c6 C)) (fun ξ => rfl))) xN))) xN)) xN)))
noncomputable def oV : SM :=
 ai (sRet (e2 mAdd (eL mSum (ac (cQ (itV (am (ac (eLoc 0) (ac (eLoc 1) lNil)))) [none, none, none, none] (aT 1) (eC true) (cIn (itV (eLoc 1)) (aT 2) (eC true) (cS (eL mLen (ac (e2 ah (eLoc 1) (eLoc 2)) lNil))))) lNil)) (eL mSum (ac (cQ (itV (eLoc 2)) [none, none, none] (aT 1) (eC true) (cS (eL mLen (ac (eLoc 1) lNil)))) lNil))))
 sNil
noncomputable def bY : List V → OM V := mFn 3 4 [] oV
theorem gq (C : Cx) : OpC C 6 326 bY := by
 refine fn_K rfl (b3 fun ξ ξ ξ => rfl) rfl ?_
 exact xC (a7 (aM (cG bL (lC (c8 (fun ξ => ⟨_, rfl⟩) rfl (fun ξ ξ ξ => j5 _ _ _ _ _ _ _ _ _ _ _ _) (fun ξ ξ ξ => lK _ _ _ _ _ _ _ _ _ _ _ _) (by kernel_rfl) rfl (aQ (al (lC (oL 0) (lC (oL 1) lN)))) (aJ (X := false) (i := 1) rfl rfl) b6 (qs (fun ξ ξ ξ => j4 _ _ _ _ _ _ _ _ _ _ _ _) (fun ξ ξ ξ => lJ _ _ _ _ _ _ _ _ _ _ _ _) (aQ (oL 1)) (aJ (X := false) (i := 2) rfl rfl) b6 (bF (cG bL (lC (iT (oL 1) (oL 2)) lN) aI cF)) aZ (fun ξ ξ => rfl)) aZ (fun ξ ξ => rfl)) lN) aI o6) (cG bL (lC (c8 (fun ξ => ⟨_, rfl⟩) rfl (fun ξ ξ ξ => bW _ _ _ _ _ _ _ _ _) (fun ξ ξ ξ => ck _ _ _ _ _ _ _ _ _) (by kernel_rfl) rfl (aQ (oL 2)) (aJ (X := false) (i := 1) rfl rfl) b6 (bF (cG bL (lC (oL 1) lN) aI cF)) aZ (fun ξ ξ => rfl)) lN) aI o6) cw)) xN
noncomputable def ny : SM :=
 ai (sSet 3 (eL (gu 54 ce) lNil))
 (ai (fN (ip 4 5) (av (ac (eL ff (ac (eLoc 3) lNil)) (ac (am (ac (av (ac (eC (.int 0)) (ac (am (ac (av (ac (eC (.str "outer")) (ac (eC (.int 0)) lNil))) lNil)) lNil))) (ac (av (ac (eC (.int 1)) (ac (am (ac (av (ac (eC (.str "outer")) (ac (eC (.int 1)) lNil))) lNil)) lNil))) (ac (av (ac (eC (.int 2)) (ac (am (ac (av (ac (eC (.str "site")) (ac (eC (.str "a")) lNil))) lNil)) lNil))) lNil)))) lNil))))
 (ai (aL (aw im eS (eLoc 5) (ac (av (ac (eC (.int 3)) (ac (am (ac (av (ac (eC (.str "site")) (ac (eC (.str "b")) lNil))) lNil)) lNil))) lNil)))
 (ai (sSet 6 (cP (bd (eC (.str "held")) (eL gn (ac (e2 mAdd (eLoc 5) (am (ac (av (ac (eC (.int 4)) (ac (e2 ah (eLoc 1) (eC (.int 0))) lNil))) (ac (av (ac (eC (.int 5)) (ac (e2 ah (eLoc 1) (eC (.int 1))) lNil))) (ac (av (ac (eC (.int 6)) (ac (am lNil) lNil))) (ac (av (ac (eC (.int 7)) (ac (am lNil) lNil))) lNil)))))) lNil)) (bd (eC (.str "gone")) (am lNil) (bd (eC (.str "leaks")) (am lNil) (bd (eC (.str "kept")) (am lNil) dK))))))
 (ai (bI (eLoc 6) (eC (.str "inside")) (cP (bd (eC (.str "a")) (e2 ah (eLoc 1) (eC (.int 2))) (bd (eC (.str "b")) (e2 ah (eLoc 1) (eC (.int 3))) (bd (eC (.str "c")) (am lNil) (bd (eC (.str "d")) (am lNil) dK))))))
 (ai (sFor (itL dJ (ac (eC (.int 2)) (ac (eC (.int 6)) lNil))) (aT 7)
  (ai (aL (aw (au 204 "give") aX (eLoc 4) (ac (eLoc 7) (ac (e2 ah (e2 ah (eLoc 6) (eC (.str "held"))) (eLoc 7)) lNil))))
 sNil))
 (ai (sFor (itV (am (ac (eC (.str "a")) (ac (eC (.str "b")) lNil)))) (aT 8)
  (ai (aL (aw (au 204 "put") bj (eLoc 4) (ac (am (ac (av (ac (eC (.str "site")) (ac (eLoc 8) lNil))) lNil)) (ac (e2 ah (e2 ah (eLoc 6) (eC (.str "inside"))) (eLoc 8)) lNil))))
 sNil))
 (ai (sFor (itV (e2 ah (eLoc 0) (eC (.str "leaks")))) (aT 9)
  (ai (aL (aw (au 204 "note") ar (eLoc 4) (ac (e1 (aG 54 "leaks") (eLoc 3)) (ac (eLoc 9) lNil))))
 sNil))
 (ai (sFor (itV (e2 ah (eLoc 0) (eC (.str "kept")))) (aT 9)
  (ai (aL (aw (au 204 "note") ar (eLoc 4) (ac (e1 (aG 54 "kept") (eLoc 3)) (ac (eLoc 9) lNil))))
 sNil))
 (ai (sFor (itL dJ (ac (eC (.int 2)) lNil)) (aT 10)
  (ai (sFor (itV (e2 ah (e2 ah (eLoc 0) (eC (.str "told"))) (eLoc 10))) (aT 9)
  (ai (aL (aw (au 204 "note") ar (eLoc 4) (ac (aw (au 54 "told_by") cC (eLoc 3) (ac (eLoc 10) lNil)) (ac (eLoc 9) lNil))))
 sNil))
 sNil))
 (ai (sSet 11 (e2 mAdd (e2 mAdd (e2 mAdd (eL mLen (ac (e2 ah (eLoc 0) (eC (.str "leaks"))) lNil)) (eL mLen (ac (e2 ah (eLoc 0) (eC (.str "kept"))) lNil))) (eL mLen (ac (e2 ah (e2 ah (eLoc 0) (eC (.str "told"))) (eC (.int 0))) lNil))) (eL mLen (ac (e2 ah (e2 ah (eLoc 0) (eC (.str "told"))) (eC (.int 1))) lNil))))
 (ai (sIf (bV (e2 mNe (eL dI (ac (eLoc 3) lNil)) (eLoc 11)))
  (ai (sRet (eC (.bool false)))
 sNil)
  sNil)
 (ai (sSet 12 (e1 mNeg (eC (.int 1))))
 (ai (eZ (bV (e2 mNe (eLoc 12) (eL bY (ac (e1 (aG 204 "held") (eLoc 4)) (ac (e1 (aG 204 "inside") (eLoc 4)) (ac (am (ac (e1 (aG 204 "gone") (eLoc 4)) (ac (e1 (aG 54 "leaks") (e1 (aG 204 "summary") (eLoc 4))) (ac (e1 (aG 54 "kept") (e1 (aG 204 "summary") (eLoc 4))) lNil)))) lNil))))))
  (ai (sSet 12 (eL bY (ac (e1 (aG 204 "held") (eLoc 4)) (ac (e1 (aG 204 "inside") (eLoc 4)) (ac (am (ac (e1 (aG 204 "gone") (eLoc 4)) (ac (e1 (aG 54 "leaks") (e1 (aG 204 "summary") (eLoc 4))) (ac (e1 (aG 54 "kept") (e1 (aG 204 "summary") (eLoc 4))) lNil)))) lNil)))))
 (ai (aL (eL kW (ac (eLoc 4) (ac (eLoc 2) lNil))))
 sNil)))
 (ai (sSet 12 (e1 mNeg (eC (.int 1))))
 (ai (eZ (bV (e2 mNe (eLoc 12) (eL bY (ac (e2 ah (eLoc 6) (eC (.str "held"))) (ac (e2 ah (eLoc 6) (eC (.str "inside"))) (ac (am (ac (e2 ah (eLoc 6) (eC (.str "gone"))) (ac (e2 ah (eLoc 6) (eC (.str "leaks"))) (ac (e2 ah (eLoc 6) (eC (.str "kept"))) lNil)))) lNil))))))
  (ai (sSet 12 (eL bY (ac (e2 ah (eLoc 6) (eC (.str "held"))) (ac (e2 ah (eLoc 6) (eC (.str "inside"))) (ac (am (ac (e2 ah (eLoc 6) (eC (.str "gone"))) (ac (e2 ah (eLoc 6) (eC (.str "leaks"))) (ac (e2 ah (eLoc 6) (eC (.str "kept"))) lNil)))) lNil)))))
 (ai (aL (eL iD (ac (eLoc 6) (ac (eLoc 0) (ac (eLoc 2) lNil)))))
 sNil)))
 (ai (sFor (itL dJ (ac (eC (.int 8)) lNil)) (aT 7)
  (ai (sIf (bV (e2 mNe (eL aV (ac (aw (au 204 "tokens_of") az (eLoc 4) (ac (av (ac (eC (.str "reg")) (ac (eLoc 7) lNil))) lNil)) lNil)) (eL aV (ac (e2 ah (e2 ah (eLoc 6) (eC (.str "held"))) (eLoc 7)) lNil))))
  (ai (sRet (eC (.bool false)))
 sNil)
  sNil)
 sNil))
 (ai (sFor (itV (am (ac (eC (.str "a")) (ac (eC (.str "b")) (ac (eC (.str "c")) (ac (eC (.str "d")) lNil)))))) (aT 8)
  (ai (sIf (bV (e2 mNe (eL aV (ac (aw eM mGet (e1 (aG 204 "inside") (eLoc 4)) (ac (eLoc 8) (ac ch lNil))) lNil)) (eL aV (ac (e2 ah (e2 ah (eLoc 6) (eC (.str "inside"))) (eLoc 8)) lNil))))
  (ai (sRet (eC (.bool false)))
 sNil)
  sNil)
 sNil))
 (ai (sIf (bOr (bV (e2 mNe (eL aV (ac (e1 (aG 204 "gone") (eLoc 4)) lNil)) (eL aV (ac (e2 ah (eLoc 6) (eC (.str "gone"))) lNil)))) (bOr (bV (e2 mNe (eL aV (ac (e1 (aG 54 "leaks") (e1 (aG 204 "summary") (eLoc 4))) lNil)) (eL aV (ac (e2 ah (eLoc 6) (eC (.str "leaks"))) lNil)))) (eC false)))
  (ai (sRet (eC (.bool false)))
 sNil)
  sNil)
 (ai (sRet (e2 mEq (eL aV (ac (e1 (aG 54 "kept") (e1 (aG 204 "summary") (eLoc 4))) lNil)) (eL aV (ac (e2 ah (eLoc 6) (eC (.str "kept"))) lNil))))
 sNil)))))))))))))))))))
noncomputable def dB : List V → OM V := mFn 3 23 [] ny
theorem jQ (C : Cx) : OpC C 14 333 dB := by
 refine fn_K rfl (b3 fun ξ ξ ξ => rfl) rfl ?_
 exact xC (xS 3 (cG gL lN kR (OpL.le (jU (by kernel_rfl) (by kernel_rfl) (by kernel_rfl) (gO C)) (by decide)))) (xC (gc (i := 4) (j := 5) (ao (lC (cG gL (lC (oL 3) lN) kR (fQ (pO C))) (lC (al (lC (ao (lC sI (lC (al (lC (ao (lC sS (lC sI lN))) lN)) lN))) (lC (ao (lC sI (lC (al (lC (ao (lC sS (lC sI lN))) lN)) lN))) (lC (ao (lC sI (lC (al (lC (ao (lC sS (lC sS lN))) lN)) lN))) lN)))) lN))) rfl rfl (fun ξ => rfl) (fun env h => by cases env; cases h; kernel_rfl)) (xC (xE (bH (oL 5) gU PySem.F.plainAttrs_list PySem.F.slot_list_append PySem.F.type_list_append (lC (ao (lC sI (lC (al (lC (ao (lC sS (lC sS lN))) lN)) lN))) lN) rfl jq (fun ξ => rfl) rfl rfl)) (xC (xS 6 (dN (aU sS (cG bL (lC (aM (oL 5) (al (lC (ao (lC sI (lC (iT (oL 1) sI) lN))) (lC (ao (lC sI (lC (iT (oL 1) sI) lN))) (lC (ao (lC sI (lC (al lN) lN))) (lC (ao (lC sI (lC (al lN) lN))) lN))))) cw) lN) bR qY) (aU sS (al lN) (aU sS (al lN) (aU sS (al lN) dQ)))) (fun ξ => rfl) rfl)) (xC (bm (dN (aU sS (iT (oL 1) sI) (aU sS (iT (oL 1) sI) (aU sS (al lN) (aU sS (al lN) dQ)))) (fun ξ => rfl) rfl) (oL 6) sS (fun ξ => rfl)) (xC (xF (ee bL (lC sI (lC sI lN)) rfl) (aJ (X := true) (i := 7) rfl rfl) (xC (xE (aP (oL 4) (mX C) (lC (oL 7) (lC (iT (iT (oL 6) sS) (oL 7)) lN)) rfl (fQ (dL C)) (fun ξ => rfl))) xN) j2) (xC (xF (aQ (al (lC sS (lC sS lN)))) (aJ (X := true) (i := 8) rfl rfl) (xC (xE (aP (oL 4) (pG C) (lC (al (lC (ao (lC sS (lC (oL 8) lN))) lN)) (lC (iT (iT (oL 6) sS) (oL 8)) lN)) rfl (fQ (d4 C)) (fun ξ => rfl))) xN) aZ) (xC (xF (aQ (iT (oL 0) sS)) (aJ (X := true) (i := 9) rfl rfl) (xC (xE (aP (oL 4) (fB C) (lC (ay (oL 3) (at_leaks C) (fun ξ => rfl)) (lC (oL 9) lN)) rfl (fQ (be C)) (fun ξ => rfl))) xN) aZ) (xC (xF (aQ (iT (oL 0) sS)) (aJ (X := true) (i := 9) rfl rfl) (xC (xE (aP (oL 4) (fB C) (lC (ay (oL 3) (at_kept C) (fun ξ => rfl)) (lC (oL 9) lN)) rfl (fQ (be C)) (fun ξ => rfl))) xN) aZ) (xC (xF (ee bL (lC sI lN) rfl) (aJ (X := true) (i := 10) rfl rfl) (xC (xF (aQ (iT (iT (oL 0) sS) (oL 10))) (aJ (X := true) (i := 9) rfl rfl) (xC (xE (aP (oL 4) (fB C) (lC (aP (oL 3) (pE C) (lC (oL 10) lN) rfl (fQ (jc C)) (fun ξ => rfl)) (lC (oL 9) lN)) rfl (fQ (be C)) (fun ξ => rfl))) xN) aZ) xN) j2) (xC (xS 11 (aM (aM (aM (cG bL (lC (iT (oL 0) sS) lN) aI cF) (cG bL (lC (iT (oL 0) sS) lN) aI cF) cw) (cG bL (lC (iT (iT (oL 0) sS) sI) lN) aI cF) cw) (cG bL (lC (iT (iT (oL 0) sS) sI) lN) aI cF) cw)) (xC (aN (cB (cG gL (lC (oL 3) lN) kR (fQ (jb C))) (oL 11) fR) (xC (a7 bX) xN) xN) (xC (xS 12 (df sI)) (xC (gb (cB (oL 12) (cG gL (lC (ay (oL 4) (at_held C) (fun ξ => rfl)) (lC (ay (oL 4) (at_inside C) (fun ξ => rfl)) (lC (al (lC (ay (oL 4) (at_gone C) (fun ξ => rfl)) (lC (ay (ay (oL 4) (at_summary C) (fun ξ => rfl)) (at_leaks C) (fun ξ => rfl)) (lC (ay (ay (oL 4) (at_summary C) (fun ξ => rfl)) (at_kept C) (fun ξ => rfl)) lN)))) lN))) kR (fQ (gq C))) fR) (xC (xS 12 (cG gL (lC (ay (oL 4) (at_held C) (fun ξ => rfl)) (lC (ay (oL 4) (at_inside C) (fun ξ => rfl)) (lC (al (lC (ay (oL 4) (at_gone C) (fun ξ => rfl)) (lC (ay (ay (oL 4) (at_summary C) (fun ξ => rfl)) (at_leaks C) (fun ξ => rfl)) (lC (ay (ay (oL 4) (at_summary C) (fun ξ => rfl)) (at_kept C) (fun ξ => rfl)) lN)))) lN))) kR (fQ (gq C)))) (xC (xE (cG gL (lC (oL 4) (lC (oL 2) lN)) kR (fQ (f_law_do C)))) xN))) (xC (xS 12 (df sI)) (xC (gb (cB (oL 12) (cG gL (lC (iT (oL 6) sS) (lC (iT (oL 6) sS) (lC (al (lC (iT (oL 6) sS) (lC (iT (oL 6) sS) (lC (iT (oL 6) sS) lN)))) lN))) kR (fQ (gq C))) fR) (xC (xS 12 (cG gL (lC (iT (oL 6) sS) (lC (iT (oL 6) sS) (lC (al (lC (iT (oL 6) sS) (lC (iT (oL 6) sS) (lC (iT (oL 6) sS) lN)))) lN))) kR (fQ (gq C)))) (xC (xE (cG gL (lC (oL 6) (lC (oL 0) (lC (oL 2) lN))) kR (fQ (pP C)))) xN))) (xC (xF (ee bL (lC sI lN) rfl) (aJ (X := true) (i := 7) rfl rfl) (xC (aN (cB (cG bL (lC (aP (oL 4) (dH C) (lC (ao (lC sS (lC (oL 7) lN))) lN) rfl (fQ (bo C)) (fun ξ => rfl)) lN) aI bC) (cG bL (lC (iT (iT (oL 6) sS) (oL 7)) lN) aI bC) fR) (xC (a7 bX) xN) xN) xN) j2) (xC (xF (aQ (al (lC sS (lC sS (lC sS (lC sS lN)))))) (aJ (X := true) (i := 8) rfl rfl) (xC (aN (cB (cG bL (lC (bH (ay (oL 4) (at_inside C) (fun ξ => rfl)) cR PySem.F.plainAttrs_dict PySem.F.slot_dict_get PySem.F.type_dict_get (lC (oL 8) (lC bp lN)) rfl ir (fun ξ => rfl) rfl rfl) lN) aI bC) (cG bL (lC (iT (iT (oL 6) sS) (oL 8)) lN) aI bC) fR) (xC (a7 bX) xN) xN) xN) aZ) (xC (aN (eU (g6 (cB (cG bL (lC (ay (oL 4) (at_gone C) (fun ξ => rfl)) lN) aI bC) (cG bL (lC (iT (oL 6) sS) lN) aI bC) fR) (g6 (cB (cG bL (lC (ay (ay (oL 4) (at_summary C) (fun ξ => rfl)) (at_leaks C) (fun ξ => rfl)) lN) aI bC) (cG bL (lC (iT (oL 6) sS) lN) aI bC) fR) fK))) (xC (a7 bX) xN) xN) (xC (a7 (cM (cG bL (lC (ay (ay (oL 4) (at_summary C) (fun ξ => rfl)) (at_kept C) (fun ξ => rfl)) lN) aI bC) (cG bL (lC (iT (oL 6) sS) lN) aI bC) bD)) xN)))))))))))))))))))
noncomputable def oU : SM :=
 ai (sRet (cQ (itV (eLoc 1)) [none, none, none, some 0] (aT 1) (bV (e2 mEq (eL cH (ac (eLoc 3) (ac (eC (.int 3)) lNil))) (eC (.int 0)))) (cS (eLoc 1))))
 sNil
noncomputable def bQ : List V → OM V := mFn 2 2 [] oU
theorem cL (C : Cx) : OpC C 7 338 bQ := by
 refine fn_K rfl (b2 fun ξ ξ => rfl) rfl ?_
 exact xC (a7 (c8 (fun ξ => ⟨_, rfl⟩) rfl (fun ξ ξ ξ => bW _ _ _ _ _ _ _ _ _) (fun ξ ξ ξ => ck _ _ _ _ _ _ _ _ _) (by kernel_rfl) rfl (aQ (oL 1)) (aJ (X := false) (i := 1) rfl rfl) (fI (cB (cG gL (lC (oL 3 rfl (.inr (.inl rfl))) (lC sI lN)) kR (fQ (fE C))) sI bD)) (bF (oL 1)) aZ (fun ξ ξ => rfl))) xN
noncomputable def s_law : SM :=
 ai (sSet 1 (cP (bd (eC (.str "leaks")) (am lNil) (bd (eC (.str "kept")) (am lNil) (bd (eC (.str "told")) (am (ac (am lNil) (ac (am lNil) lNil))) dK)))))
 (ai (sIf (bNot (bV (eL dB (ac (eLoc 1) (ac (am (ac (am lNil) (ac (am lNil) (ac (am lNil) (ac (am lNil) lNil))))) (ac (av (ac (eC (.str "go")) (ac (am (ac (eC (.int 2)) (ac (eC (.int 3)) lNil))) lNil))) lNil))))))
  (ai (sRet (eC (.bool false)))
 sNil)
  sNil)
 (ai (sSet 2 (eL gI (ac (eLoc 0) lNil)))
 (ai (sSet 3 (am (ac (av (ac (eC (.int 0)) (ac (eC (.int 1)) lNil))) (ac (av (ac (eC (.int 1)) (ac (eC (.int 0)) lNil))) (ac (av (ac (e1 mNeg (eC (.int 1))) (ac (eC (.int 0)) lNil))) (ac (av (ac (e1 mNeg (eC (.int 1))) (ac (eC (.int 1)) lNil))) (ac (av (ac (eC (.int 0)) (ac (eC (.int 2)) lNil))) (ac (av (ac (eC (.int 1)) (ac (eC (.int 2)) lNil))) (ac (av (ac (eC (.int 2)) (ac (eC (.int 0)) lNil))) (ac (av (ac (eC (.int 1)) (ac (eC (.int 1)) lNil))) lNil))))))))))
 (ai (sSet 4 (cP (bd (eC (.str "leaks")) (eL bQ (ac (eLoc 2) (ac (am (ac (eC (.int 0)) (ac (eC (.int 1)) (ac (eC (.int 2)) lNil)))) lNil))) (bd (eC (.str "kept")) (eL bQ (ac (eLoc 2) (ac (eLoc 3) lNil))) dK))))
 (ai (bI (eLoc 4) (eC (.str "told")) (am (ac (eL bQ (ac (eLoc 2) (ac (am (ac (eC (.int 0)) (ac (eC (.int 1)) (ac (e1 mNeg (eC (.int 1))) lNil)))) lNil))) (ac (eL bQ (ac (eLoc 2) (ac (am (ac (eC (.int 0)) (ac (eC (.int 1)) (ac (e1 mNeg (eC (.int 1))) lNil)))) lNil))) lNil))))
 (ai (sSet 5 (am (ac (av (ac (eC (.str "outer")) (ac (eC (.int 0)) lNil))) (ac (av (ac (eC (.str "outer")) (ac (eC (.int 1)) lNil))) (ac (av (ac (eC (.str "site")) (ac (eC (.str "a")) lNil))) (ac (av (ac (eC (.str "site")) (ac (eC (.str "b")) lNil))) (ac (av (ac (eC (.str "site")) (ac (eC (.str "c")) lNil))) (ac (av (ac (eC (.str "beyond")) lNil)) lNil))))))))
 (ai (sSet 6 (am (ac (eL bQ (ac (eLoc 2) (ac (eLoc 5) lNil))) (ac (eL bQ (ac (eLoc 2) (ac (eLoc 5) lNil))) (ac (eL bQ (ac (eLoc 2) (ac (eLoc 5) lNil))) (ac (eL bQ (ac (eLoc 2) (ac (eLoc 5) lNil))) lNil))))))
 (ai (sSet 7 (am (ac (eC (.str "call")) (ac (eC (.str "call")) (ac (eC (.str "defer")) (ac (eC (.str "literal")) (ac (eC (.str "literal")) (ac (eC (.str "strange literal")) (ac (eC (.str "strange call")) (ac (eC (.str "face call")) lNil))))))))))
 (ai (sSet 8 (eL jz (ac (eLoc 2) (ac (e2 mAdd (eLoc 7) (am (ac (eC (.str "value call")) (ac (eC (.str "go")) (ac (eC (.str "value go")) (ac (eC (.str "strange defer")) lNil)))))) lNil))))
 (ai (sRet (eL dB (ac (eLoc 4) (ac (eLoc 6) (ac (av (ac (eLoc 8) (ac (am (ac (eL cH (ac (eLoc 2) (ac (eC (.int 6)) lNil))) (ac (eL cH (ac (eLoc 2) (ac (eC (.int 6)) lNil))) lNil))) lNil))) lNil)))))
 sNil))))))))))
noncomputable def oh : List V → OM V := mFn 1 14 [] s_law
theorem f_law (C : Cx) : OpC C 15 345 oh := by
 refine fn_K rfl (b1 fun ξ => rfl) rfl ?_
 exact xC (xS 1 (dN (aU sS (al lN) (aU sS (al lN) (aU sS (al (lC (al lN) (lC (al lN) lN))) dQ))) (fun ξ => rfl) rfl)) (xC (aN (sim_notB (oS (cG gL (lC (oL 1) (lC (al (lC (al lN) (lC (al lN) (lC (al lN) (lC (al lN) lN))))) (lC (ao (lC sS (lC (al (lC sI (lC sI lN))) lN))) lN))) kR (fQ (jQ C))) (fun ξ => rfl))) (xC (a7 bX) xN) xN) (xC (xS 2 (cG gL (lC (oL 0) lN) kR (fQ (oA C)))) (xC (xS 3 (al (lC (ao (lC sI (lC sI lN))) (lC (ao (lC sI (lC sI lN))) (lC (ao (lC (df sI) (lC sI lN))) (lC (ao (lC (df sI) (lC sI lN))) (lC (ao (lC sI (lC sI lN))) (lC (ao (lC sI (lC sI lN))) (lC (ao (lC sI (lC sI lN))) (lC (ao (lC sI (lC sI lN))) lN)))))))))) (xC (xS 4 (dN (aU sS (cG gL (lC (oL 2) (lC (al (lC sI (lC sI (lC sI lN)))) lN)) kR (fQ (cL C))) (aU sS (cG gL (lC (oL 2) (lC (oL 3) lN)) kR (fQ (cL C))) dQ)) (fun ξ => rfl) rfl)) (xC (bm (al (lC (cG gL (lC (oL 2) (lC (al (lC sI (lC sI (lC (df sI) lN)))) lN)) kR (fQ (cL C))) (lC (cG gL (lC (oL 2) (lC (al (lC sI (lC sI (lC (df sI) lN)))) lN)) kR (fQ (cL C))) lN))) (oL 4) sS (fun ξ => rfl)) (xC (xS 5 (al (lC (ao (lC sS (lC sI lN))) (lC (ao (lC sS (lC sI lN))) (lC (ao (lC sS (lC sS lN))) (lC (ao (lC sS (lC sS lN))) (lC (ao (lC sS (lC sS lN))) (lC (ao (lC sS lN)) lN)))))))) (xC (xS 6 (al (lC (cG gL (lC (oL 2) (lC (oL 5) lN)) kR (fQ (cL C))) (lC (cG gL (lC (oL 2) (lC (oL 5) lN)) kR (fQ (cL C))) (lC (cG gL (lC (oL 2) (lC (oL 5) lN)) kR (fQ (cL C))) (lC (cG gL (lC (oL 2) (lC (oL 5) lN)) kR (fQ (cL C))) lN)))))) (xC (xS 7 (al (lC sS (lC sS (lC sS (lC sS (lC sS (lC sS (lC sS (lC sS lN)))))))))) (xC (xS 8 (cG gL (lC (oL 2) (lC (aM (oL 7) (al (lC sS (lC sS (lC sS (lC sS lN))))) cw) lN)) kR (fQ (rF C)))) (xC (a7 (cG gL (lC (oL 4) (lC (oL 6) (lC (ao (lC (oL 8) (lC (al (lC (cG gL (lC (oL 2) (lC sI lN)) kR (fQ (fE C))) (lC (cG gL (lC (oL 2) (lC sI lN)) kR (fQ (fE C))) lN))) lN))) lN))) kR (fQ (jQ C)))) xN))))))))))
theorem ints_W : ∀ is : List Int, ofPys (is.map PyData.int) = is.map WData.int := fun is => by
 induction is with
 | nil => rfl
 | cons i r ih => exact congrArg (WData.int i :: ·) ih
theorem ints_rel {ρ : List Addr} {h : Heap} {vs : List Value} {is : List Int} (x : IntsAre vs is) : RelL ρ h (is.map .int) vs := by
 induction x with
 | nil => exact .nil
 | cons n t ξ ih => exact .cons ⟨_, rfl⟩ ih
theorem pW {args : List WData} (hpre : (PySem.Challenge.rw_xw0047_01.row.toRowW).claim.pre args = true) : ∃ is : List Int, args = [.list (is.map .int)] ∧ is.length ≤ 63 := by
 obtain ⟨h1, h2⟩ := pre_splitW hpre
 have h1' : WShape.hasAll [] args [.list .int] = true := h1
 obtain ⟨d, r, rfl, h3, h4⟩ := hasAllW_cons h1'
 obtain rfl := hasAllW_nil h4
 obtain ⟨xs, rfl, h5⟩ := hasW_list h3
 obtain ⟨is, rfl⟩ := items_int h5
 refine ⟨is, rfl, ?_⟩
 have h7 := (holds_andW (show WTm.holds [] (.and (.not (.lt (.lit (.int 63)) (.len (.arg 0)))) (.lit (.bool true))) _ = true from h2)).1
 rw [holdsW_of_value (w_not (w_lt w_lit (w_len_list (w_arg rfl))))] at h7
 rw [List.length_map] at h7
 refine Nat.le_of_not_lt fun q => ?_
 have q' : (63 : Int) < (is.length : Int) := Int.ofNat_lt.mpr q
 rw [decide_eq_true q'] at h7
 cases h7
inductive OneList (s : Heap) (is : List Int) (vals : List Value) : Prop
 | mk (l : Addr) (ol : Obj) (vs : Array Value) (nl : Nat) (e : vals = [.ref l]) (hol : s.get? l = some ol) (hcl : ol.cls = .type "list") (hdl : ol.data = .seq vs nl) (hi : IntsAre vs.toList is) (hs : l ≠ sysModules) : OneList s is vals
theorem oO {R : WRecords} {cl : Str → Option Addr} {h : Heap} {vals : List Value} {is : List Int} {as : List Addr} (x : ReadsAllW R cl h vals [.list (is.map .int)] as) (hs : ∀ a ∈ as, (a == sysModules) = false) : OneList h is vals := by
 rw [← ints_W] at x
 have q := readsAll_of_readsAllW [.list (is.map .int)] x
 clear x
 cases q with
 | cons c d =>
  cases d
  cases c with
  | list g1 g2 g3 g4 => exact ⟨_, _, _, _, rfl, g1, g2, g3, (readsAll_intsAre0 g4).1, beq_eq_false_iff_ne.mp (hs _ (.head _))⟩
theorem look_ne {l : Frag} {a : Addr} {o : Obj} (h : l.lookup a = some o) (p : l.all (fun q => q.2.cls != .type "list") = true) : o.cls ≠ .type "list" := by
 induction l with
 | nil => cases h
 | cons q r ih =>
  obtain ⟨k, v⟩ := q
  rw [List.all_cons, Bool.and_eq_true] at p
  rw [List.lookup_cons] at h
  split at h
  ·cases h; exact bne_iff_ne.mp p.1
  ·exact ih h p.2
theorem noLists (P : Params) : ((K9 P).all fun p => p.2.cls != .type "list") = true := by kernel_rfl
noncomputable def cx (w : World) (h : Heap) (l : Addr) (mg mb : Str → Option Value) : Cx := ⟨w, hideAll h [l], vw, looseW vw [], mg, mb⟩
section
variable {w : World} {s : Shared} {mg mb : Str → Option Value} {l : Addr} {ol : Obj} {vs : Array Value} {nl : Nat} {is : List Int}
theorem hid {h : Heap} {b : Addr} {ob : Obj} (e : h.get? b = some ob) (hb : b ≠ l) : (hideAll h [l]).get? b = some ob := hideAll_get _ e (by simpa using hb)
theorem cx_ok {h : Heap} (hX : (K9 w.params).In h) (hT : TopRead vw (looseW vw []) mg mb h) (low : sysModules < h.objs.size) (hol : h.get? l = some ol) (hcl : ol.cls = .type "list") (hdl : ol.data = .seq vs nl) : (cx w h l mg mb).Ok := by
 have nsk : ∀ {b : Addr} {m : Str → Option Value}, h.Ns b m → (hideAll h [l]).Ns b m := fun q => by obtain ⟨ob, es, ep, e, e', r⟩ := q; exact ⟨ob, es, ep, hid e (fun q => by subst q; rw [hol] at e; cases e; rw [hdl] at e'; cases e'), e', r⟩
 refine ⟨fun b ob e => hid (hX b ob e) (fun q => ?_), ⟨nsk hT.g, nsk hT.b, ?_, hT.builtins, hT.free⟩, .inr ?_⟩
 ·subst q
  have := hX b ob e
  rw [hol] at this; cases this
  exact look_ne e (noLists _) hcl
 ·obtain ⟨mc, hm, he⟩ := hT.nolimit
  exact ⟨mc, nsk hm, he⟩
 ·show sysModules < (hideAll h [l]).objs.size
  rw [hideAll_size]; exact low
theorem cx_rep {h : Heap} (low : sysModules < h.objs.size) (hol : h.get? l = some ol) (hcl : ol.cls = .type "list") (hdl : ol.data = .seq vs nl) (hi : IntsAre vs.toList is) (hs : l ≠ sysModules) : Rep (cx w h l mg mb) [l] [.flist (is.map .int)] h := by
 refine ⟨fun b ob e => of_hideAll _ e, Nat.le_of_eq (hideAll_size _ _), rfl, List.pairwise_singleton _ _, ?_, fun b hb => ?_, fun i b m hi' hm => ?_⟩
 ·show sysModules < (hideAll h [l]).objs.size
  rw [hideAll_size]; exact low
 ·rw [List.mem_singleton.mp hb]
  exact ⟨hideAll_none _ (.head _), hs⟩
 ·cases i with
  | zero => cases hi'; cases hm; exact ⟨ol, vs, nl, hol, hcl, hdl, ints_rel hi⟩
  | succ i => cases hi'
end
theorem rm9 : Room callerA 16 := ⟨rfl, by decide +kernel, by decide +kernel⟩
theorem good9 {cl : Str → Option Addr} {mean : ExcName → Option Value} {args : List WData} {is : List Int} {s : Shared} {h' : Heap} {tk : Tok} (e : args = [.list (is.map .int)]) (hg : s.gens = #[]) (old : ∀ b o, s.heap.get? b = some o → h'.get? b = some o) :
  GoodWG (PySem.Challenge.rw_xw0047_01.row.toRowW).claim cl mean args s (.ok (.ret (.bool true))) (sw s h' tk) := by
 subst e
 refine GoodW.toG ⟨.inl ⟨_, .bool true, [], rfl, fun cls => ?_, .bool true, ?_, fun ξ => ⟨.nil, fun ξ h => by cases h⟩⟩, old, rfl, hg⟩
 rotate_left
 ·show (WShape.has [] (.bool true) .bool && WTm.holds [] (.eq .res (.lit (.bool true))) { args := [.list (is.map .int)], res := some (.bool true), after := [.list (is.map .int)] }) = true
  exact Bool.and_eq_true_iff.mpr ⟨by kernel_rfl, holdsW_of_value (X := true == true) (w_eq_bool (w_res rfl) w_lit)⟩
 exact raisesW_false (r := PySem.Challenge.rw_xw0047_01.row.toRowW) (by intro ct h; cases h) cls
theorem law_run (plain : ∀ is : List Int, is.length ≤ 63 → ∃ H', oh [.ref 0] [.flist (is.map .int)] = some (.bool true, H')) {w : World} {s : Shared} {mg mb : Str → Option Value} {a : Addr} {vals : List Value} {is : List Int} {Q : Value → Shared → Prop} {E : Value → Shared → Prop}
  (hX : (K9 w.params).In s.heap) (hT : TopRead vw (looseW vw []) mg mb s.heap) (low : sysModules < s.heap.objs.size) (hmg : mg "law" = some (.ref a)) (V : OneList s.heap is vals) (his : is.length ≤ 63)
  (hQ : ∀ h' tk, (∀ b o, s.heap.get? b = some o → h'.get? b = some o) → Q (.bool true) (sw s h' tk)) : wpAny (model pw w) callerA (call (.ref a) vals) Q E s := by
 have e0 : mg "law" = some (.ref 345) := mg_of hX hT.g (by kernel_rfl)
 rw [e0] at hmg
 cases hmg
 obtain ⟨l, ol, vs, nl, rfl, hol, hcl, hdl, hi, hs⟩ := V
 obtain ⟨H', e⟩ := plain is his
 refine ((f_law (cx w s.heap l mg mb)).le (by decide : _ ≤ 16)).op (cx_ok hX hT low hol hcl hdl) rm9 (cx_rep low hol hcl hdl hi hs) (l := [.ref 0]) (.cons (.ref rfl) .nil) e fun ρ' h' tk rv P r => ?_
 cases r.bool_
 refine hQ h' tk fun b ob e => ?_
 by_cases hb : b = l
 ·subst hb
  exact (P.fro 0 b _ rfl rfl).2.trans e
 ·exact P.rep.keep b ob (hid e hb)
theorem law_of (plain : ∀ is : List Int, is.length ≤ 63 → ∃ H', oh [.ref 0] [.flist (is.map .int)] = some (.bool true, H')) : PySem.Challenge.rw_xw0047_01.Holds := by
 refine holds_law ws9 fun said => holds_open (q := vw) (loose := []) (Xt := fun s => xlAt vw [] s && recOk [] s) (XP := XL vw []) (N := 4232) left9 hk9.of hk9.keeps (fun s e => xl_of s (Bool.and_eq_true_iff.mp e).1) XL.keeps (by rfl) (by rfl) (by rfl) (fun s e => recFacts_of (Bool.and_eq_true_iff.mp e).2) rfl said ok9 ⟨rfl, rfl, rfl, rfl, rfl, by decide +kernel⟩ ⟨[.list []], by decide +kernel, by decide +kernel⟩ ?_
 intro w s₀ s₁ mg mb G Y a o pm cd doc dV kV ho hdat hcd hdf hmg hgens args vals as hpre hlay hrd hwell has
 exact (pW hpre).elim fun is p => law_run plain (kIn_of Y) (topRead_of G.T) G.low hmg (oO (p.1 ▸ hrd) has) p.2 fun h' tk old => good9 p.1 hgens old
noncomputable def ent (k : Key) : Key × V := (k, .bool true)
theorem ly (ks : List Key) (k : Key) : (dget (ks.map ent) k).isSome = decide (k ∈ ks) := by
 unfold dget
 induction ks with
 | nil => rfl
 | cons a r ih =>
  simp only [List.map_cons, List.find?_cons, ent, List.mem_cons]
  by_cases h : a = k
  ·subst h; simp
  ·have : ¬ k = a := fun q => h q.symm
   simp only [h, decide_false, this, false_or]
   exact ih
theorem qv (ks : List Key) (k : Key) : ((ks.map ent).any fun e => decide (e.1 = k)) = decide (k ∈ ks) := by
 induction ks with
 | nil => rfl
 | cons a r ih =>
  simp only [List.map_cons, List.any_cons, ih, ent, List.mem_cons]
  by_cases h : a = k
  ·subst h; simp
  ·have : ¬ k = a := fun q => h q.symm
   simp [h, this]
theorem oG {ks : List Key} {k : Key} (h : k ∉ ks) : dput (ks.map ent) k (.bool true) = (ks ++ [k]).map ent := by
 unfold dput
 rw [qv, decide_eq_false h]
 simp [ent]
theorem dput_old {ks : List Key} {k : Key} (h : k ∈ ks) : dput (ks.map ent) k (.bool true) = ks.map ent := by
 unfold dput
 rw [qv, decide_eq_true h]
 simp only [if_true, List.map_map]
 apply List.map_congr_left
 intro a ξ
 simp only [Function.comp, ent]
 exact ite_self _
theorem dz {ks : List Key} {k : Key} (h : ∀ x ∈ ks, x.isP = k.isP) : fc (ks.map ent) k = true := by
 cases k with
 | p x => simp only [fc, allP, List.all_map, List.all_eq_true]; exact fun y hy => h y hy
 | t x => simp only [fc, allT, List.all_map, List.all_eq_true]; intro y hy; have : y.isP = false := h y hy; simp only [Function.comp, ent, this, Bool.not_false]
theorem Fact.isP {f g : Fact} (h : f.cont = g.cont) : f.key.isP = g.key.isP := by
 cases f <;> cases g <;> first | (simp only [Fact.key, Tk.key_t]; done) | rfl | cases h
noncomputable def Ext (H H' : MH) : Prop := H.length ≤ H'.length ∧ ∀ i, i < H.length → H'[i]? = H[i]?
theorem Ext.refl {H : MH} : Ext H H := ⟨Nat.le_refl _, fun ξ ξ => rfl⟩
theorem Ext.trans {H H' H'' : MH} (a : Ext H H') (b : Ext H' H'') : Ext H H'' := ⟨Nat.le_trans a.1 b.1, fun i h => by rw [b.2 i (Nat.lt_of_lt_of_le h a.1), a.2 i h]⟩
theorem Ext.app {H t : MH} : Ext H (H ++ t) := ⟨by simp, fun i h => List.getElem?_append_left h⟩
theorem Ext.set {H H' : MH} {l : Nat} {m : MObj} (a : Ext H H') (h : H.length ≤ l) : Ext H (H'.set l m) := ⟨by simpa using a.1, fun i hi => by rw [List.getElem?_set_ne (by omega)]; exact a.2 i hi⟩
theorem Ext.put {H H' : MH} {l : Nat} {es : List (Key × V)} (a : Ext H H') (h : H.length ≤ l) : Ext H (putD H' l es) := a.set h
theorem Ext.get {H H' : MH} (a : Ext H H') {i : Nat} {m : MObj} (e : H[i]? = some m) : H'[i]? = some m := by rw [a.2 i (bA e)]; exact e
theorem Ext.isD {H H' : MH} (a : Ext H H') {i : Nat} {es : List (Key × V)} (e : IsD H i es) : IsD H' i es := by obtain ⟨n, e⟩ := e; exact ⟨n, a.get e⟩
theorem IsD.ndup {H : MH} {l : Nat} {a b : List (Key × V)} (x : IsD H l a) (y : IsD H l b) : a = b := by
 obtain ⟨n, x⟩ := x; obtain ⟨m, y⟩ := y; rw [x] at y; cases y; rfl
set_option genInjectivity false in
structure Fix where
 fl : Nat
 d : Nat
 cd : Nat
 sm : Nat
 dh : Nat
 di : Nat
 ds : Nat
 dg : Nat
 su : Nat
 sd : Nat
 lv : Nat
 kp : Nat
 tl : Nat
noncomputable def Fix.ns (F : Fix) (b : Bool) : List (Str × V) := [("code", .ref F.cd), ("summaries", .ref F.sm), ("held", .ref F.dh), ("inside", .ref F.di), ("sites", .ref F.ds), ("gone", .ref F.dg), ("summary", .ref F.su), ("is_new", .bool b)]
structure At where
 cs : Bool → List Cont
 at_ : Cont → Nat
noncomputable def Cont.tab : Cont → Option Bool
 | .held _ => some false
 | .ins _ => some true
 | _ => none
noncomputable def Cont.nm : Cont → Prim
 | .held r => .int ((r.val : Nat) : Int)
 | .ins s => .str s.str
 | _ => .int 0
theorem Cont.nm_inj {c c' : Cont} {p : Bool} (h : c.tab = some p) (h' : c'.tab = some p) (e : c.nm = c'.nm) : c = c' := by
 cases c <;> cases c' <;> simp only [Cont.tab, reduceCtorEq, Option.some.injEq] at h h' <;> subst h <;> simp only [reduceCtorEq, Bool.false_eq_true] at h' <;> simp only [Cont.nm, Prim.int.injEq, Prim.str.injEq] at e
 ·rename_i r r'
  have : r = r' := Fin.ext (by omega)
  rw [this]
 ·rw [Site.str_inj e]
noncomputable def At.loc (F : Fix) (A : At) : Cont → Nat
 | .gone => F.dg
 | .leaks => F.lv
 | .kept => F.kp
 | c => A.at_ c
noncomputable def At.has (A : At) (c : Cont) : Prop := match c.tab with
 | some p => c ∈ A.cs p
 | none => True
noncomputable def Fix.tab (F : Fix) : Bool → Nat
 | false => F.dh
 | true => F.di
structure Flow (F : Fix) (H : MH) (A : At) (S : St) : Prop where
 fl : H[F.fl]? = some (.inst 204 F.d)
 d : ∃ b, H[F.d]? = some (.ns (F.ns b))
 su : H[F.su]? = some (.inst 54 F.sd)
 sd : H[F.sd]? = some (.ns [("leaks", .ref F.lv), ("kept", .ref F.kp), ("told", .ref F.tl)])
 tabs : F.dh ≠ F.di
 nsd : F.d ≠ F.sd
 tab : ∀ p, IsD H (F.tab p) ((A.cs p).map fun c => (.p c.nm, .ref (A.loc F c))) ∧ (A.cs p).Nodup ∧ ∀ c ∈ A.cs p, c.tab = some p
 set : ∀ c, A.has c → ∃ fs : List Fact, IsD H (A.loc F c) ((fs.map Fact.key).map ent) ∧ fs.Nodup ∧ ∀ f, f ∈ fs ↔ S f ∧ f.cont = c
 dom : ∀ f, S f → A.has f.cont
 inj : ∀ c c', A.has c → A.has c' → A.loc F c = A.loc F c' → c = c'
 sep : ∀ c, A.has c → ∀ p, A.loc F c ≠ F.tab p
noncomputable def Own (F : Fix) (A : At) (i : Nat) : Prop := i = F.d ∨ (∃ p, i = F.tab p) ∨ ∃ c, A.has c ∧ i = A.loc F c
noncomputable def Fr (F : Fix) (H : MH) (A : At) (H' : MH) (A' : At) : Prop := H.length ≤ H'.length ∧ ∀ i, i < H.length → ¬ Own F A i → H'[i]? = H[i]? ∧ ¬ Own F A' i
section
variable {F : Fix} {H H' H'' : MH} {A A' A'' : At} {S S' : St}
theorem Fr.refl : Fr F H A H A := ⟨Nat.le_refl _, fun ξ ξ n => ⟨rfl, n⟩⟩
theorem Fr.trans (a : Fr F H A H' A') (b : Fr F H' A' H'' A'') : Fr F H A H'' A'' := ⟨Nat.le_trans a.1 b.1, fun i h n => by
 obtain ⟨e, n'⟩ := a.2 i h n
 obtain ⟨e', n''⟩ := b.2 i (Nat.lt_of_lt_of_le h a.1) n'
 exact ⟨e'.trans e, n''⟩⟩
theorem Ext.fr (a : Ext H H') : Fr F H A H' A := ⟨a.1, fun i h n => ⟨a.2 i h, n⟩⟩
theorem Fr.get (a : Fr F H A H' A') {i : Nat} {m : MObj} (e : H[i]? = some m) (n : ¬ Own F A i) : H'[i]? = some m := by rw [(a.2 i (bA e) n).1]; exact e
theorem Flow.own_obj (R : Flow F H A S) {i : Nat} (o : Own F A i) : (∃ b, H[i]? = some (.ns b)) ∨ ∃ es, IsD H i es := by
 rcases o with rfl | ⟨p, rfl⟩ | ⟨c, hc, rfl⟩
 ·obtain ⟨b, e⟩ := R.d; exact .inl ⟨_, e⟩
 ·exact .inr ⟨_, (R.tab p).1⟩
 ·obtain ⟨fs, h, ξ⟩ := R.set c hc; exact .inr ⟨_, h⟩
theorem Flow.own_lt (R : Flow F H A S) {i : Nat} (o : Own F A i) : i < H.length := by
 rcases R.own_obj o with ⟨b, e⟩ | ⟨es, e⟩
 ·exact bA e
 ·exact e.lt
theorem Flow.list_free (R : Flow F H A S) {i : Nat} {xs : List V} (e : H[i]? = some (.list xs)) : ¬ Own F A i := fun o => by
 rcases R.own_obj o with ⟨b, e'⟩ | ⟨es, n, e'⟩ <;> rw [e] at e' <;> cases e'
theorem Flow.inst_free (R : Flow F H A S) {i : Nat} {K : Addr} {d : Nat} (e : H[i]? = some (.inst K d)) : ¬ Own F A i := fun o => by
 rcases R.own_obj o with ⟨b, e'⟩ | ⟨es, n, e'⟩ <;> rw [e] at e' <;> cases e'
theorem Flow.new_free (R : Flow F H A S) {i : Nat} (h : H.length ≤ i) : ¬ Own F A i := fun o => absurd (R.own_lt o) (by omega)
theorem Fr.list (a : Fr F H A H' A') (R : Flow F H A S) {i : Nat} {xs : List V} (e : H[i]? = some (.list xs)) : H'[i]? = some (.list xs) := a.get e (R.list_free e)
theorem Flow.ext (R : Flow F H A S) (x : Ext H H') : Flow F H' A S := {
 fl := x.get R.fl
 d := by obtain ⟨b, e⟩ := R.d; exact ⟨b, x.get e⟩
 su := x.get R.su
 sd := x.get R.sd
 tabs := R.tabs
 nsd := R.nsd
 tab := fun p => ⟨x.isD (R.tab p).1, (R.tab p).2⟩
 set := fun c hc => by obtain ⟨fs, h, r⟩ := R.set c hc; exact ⟨fs, x.isD h, r⟩
 dom := R.dom
 inj := R.inj
 sep := R.sep }
inductive GoA (F : Fix) (C : St → Prop) (H : MH) (A : At) (S : St) (H' : MH) : Prop where
 | mk (S' : St) (h0 : Flow F H' A S') (h1 : Fr F H A H' A) (h2 : Doing C S S') : GoA F C H A S H'
inductive Go (F : Fix) (C : St → Prop) (H : MH) (A : At) (S : St) (H' : MH) : Prop where
 | mk (A' : At) (S' : St) (h0 : Flow F H' A' S') (h1 : Fr F H A H' A') (h2 : Doing C S S') : Go F C H A S H'
theorem GoA.go {C : St → Prop} (g : GoA F C H A S H') : Go F C H A S H' := by obtain ⟨S', a, b, c⟩ := g; exact ⟨A, S', a, b, c⟩
theorem Go.conv {C D : St → Prop} (g : Go F C H A S H') (h1 : ∀ τ : St, (∀ f, S f → τ f) → D τ → C τ) (h2 : C S → D S) : Go F D H A S H' := by obtain ⟨A', S', a, b, c⟩ := g; exact ⟨A', S', a, b, c.conv h1 h2⟩
theorem Go.trans {C D E : St → Prop} (g : Go F C H A S H') (k : ∀ A' S', Flow F H' A' S' → Fr F H A H' A' → Doing C S S' → Go F D H' A' S' H'') (h1 : ∀ τ : St, (∀ f, S f → τ f) → E τ → C τ ∧ D τ) (h2 : C S → D S → E S) : Go F E H A S H'' := by
 obtain ⟨A', S', a, b, c⟩ := g
 obtain ⟨A'', S'', a', b', c'⟩ := k A' S' a b c
 exact ⟨A'', S'', a', b.trans b', c.trans c' h1 h2⟩
theorem Go.ext (R : Flow F H A S) (x : Ext H H') : Go F (fun ξ => True) H A S H' := ⟨A, S, R.ext x, x.fr, .none⟩
theorem Flow.put (R : Flow F H A S) {f : Fact} (hf : A.has f.cont) {ks : List Key} (hk : IsD H (A.loc F f.cont) (ks.map ent)) (hn : f.key ∉ ks) :
  Flow F ((putD H (A.loc F f.cont) ((ks ++ [f.key]).map ent)).set F.d (.ns (F.ns true))) A (S.add f) ∧ Fr F H A ((putD H (A.loc F f.cont) ((ks ++ [f.key]).map ent)).set F.d (.ns (F.ns true))) A := by
 obtain ⟨b, hd⟩ := R.d
 have ne : F.d ≠ A.loc F f.cont := fun q => by obtain ⟨n, e⟩ := hk; rw [← q, hd] at e; cases e
 have keep : ∀ i m, H[i]? = some m → i ≠ F.d → i ≠ A.loc F f.cont → ((putD H (A.loc F f.cont) ((ks ++ [f.key]).map ent)).set F.d (.ns (F.ns true)))[i]? = some m := fun i m e h1 h2 => by
  rw [List.getElem?_set_ne (fun q => h1 q.symm)]
  unfold putD
  rw [List.getElem?_set_ne (fun q => h2 q.symm)]
  exact e
 have isd : ∀ i es, IsD H i es → i ≠ A.loc F f.cont → IsD ((putD H (A.loc F f.cont) ((ks ++ [f.key]).map ent)).set F.d (.ns (F.ns true))) i es := fun i es ⟨n, e⟩ h2 => ⟨n, keep i _ e (fun q => by rw [q, hd] at e; cases e) h2⟩
 have neI : ∀ (i : Nat) (K : Addr) (n : Nat), H[i]? = some (.inst K n) → i ≠ F.d ∧ i ≠ A.loc F f.cont := by
  intro i K n e
  constructor
  ·intro q
   rw [q, hd] at e
   cases e
  ·intro q
   obtain ⟨m, e'⟩ := hk
   rw [q, e'] at e
   cases e
 refine ⟨{
  fl := keep _ _ R.fl (neI _ _ _ R.fl).1 (neI _ _ _ R.fl).2
  d := ⟨true, by rw [List.getElem?_set_self (by unfold putD; rw [List.length_set]; exact bA hd)]⟩
  su := keep _ _ R.su (neI _ _ _ R.su).1 (neI _ _ _ R.su).2
  sd := keep _ _ R.sd (fun q => R.nsd q.symm) fun q => by
   obtain ⟨m, e'⟩ := hk
   have := R.sd
   rw [q, e'] at this
   cases this
  tabs := R.tabs
  nsd := R.nsd
  tab := fun p => ⟨isd _ _ (R.tab p).1 fun q => R.sep _ hf p q.symm, (R.tab p).2⟩
  set := fun c hc => ?_
  dom := fun g hg => by
   rcases hg with hg | rfl
   ·exact R.dom g hg
   ·exact hf
  inj := R.inj
  sep := R.sep }, ⟨by unfold putD; simp, fun i hi n => ⟨?_, n⟩⟩⟩
 ·obtain ⟨fs, h1, h2, h3⟩ := R.set c hc
  by_cases hq : c = f.cont
  ·subst hq
   obtain rfl : ks = fs.map Fact.key := by
    have h := h1.ndup hk
    have inj : ∀ a b : List Key, a.map ent = b.map ent → a = b := by
     intro a
     induction a with
     | nil => intro b e; cases b with
      | nil => rfl
      | cons ξ ξ => cases e
     | cons x a ih => intro b e; cases b with
      | nil => cases e
      | cons y b => simp only [List.map_cons, ent, List.cons.injEq, Prod.mk.injEq, and_true] at e; rw [e.1, ih b e.2]
    exact (inj _ _ h).symm
   refine ⟨fs ++ [f], ?_, ?_, fun g => ?_⟩
   ·obtain ⟨n, e⟩ := gf (es' := ((fs.map Fact.key ++ [f.key]).map ent)) hk
    refine ⟨n, ?_⟩
    rw [List.getElem?_set_ne ne, e]
    simp
   ·refine List.nodup_append.mpr ⟨h2, by simp, fun a ha b hb e => ?_⟩
    rw [List.mem_singleton.mp hb] at e
    subst e
    exact hn (List.mem_map.mpr ⟨_, ha, rfl⟩)
   ·rw [List.mem_append, h3, List.mem_singleton]
    constructor
    ·rintro (⟨a, b⟩ | rfl)
     ·exact ⟨.inl a, b⟩
     ·exact ⟨.inr rfl, rfl⟩
    ·rintro ⟨a | a, b⟩
     ·exact .inl ⟨a, b⟩
     ·exact .inr a
  ·refine ⟨fs, isd _ _ h1 fun q => hq (R.inj _ _ hc hf q), h2, fun g => ?_⟩
   rw [h3]
   constructor
   ·rintro ⟨a, b⟩; exact ⟨.inl a, b⟩
   ·rintro ⟨a | a, b⟩
    ·exact ⟨a, b⟩
    ·subst a; exact absurd b.symm hq
 ·have h1 : i ≠ F.d := fun q => n (.inl q)
  have h2 : i ≠ A.loc F f.cont := fun q => n (.inr (.inr ⟨_, hf, q⟩))
  rw [List.getElem?_set_ne (fun q => h1 q.symm)]
  unfold putD
  rw [List.getElem?_set_ne (fun q => h2 q.symm)]
theorem kE {fl d l : Nat} {ns : List (Str × V)} {ks : List Key} {k : Key} {P : V → MH → Prop} (h1 : H[fl]? = some (.inst 204 d)) (h2 : H[d]? = some (.ns ns)) (h3 : ns.length ≤ 100) (hk : IsD H l (ks.map ent)) (hl : ks.length ≤ 1000) (ho : fc (ks.map ent) k = true)
  (p1 : k ∈ ks → P .none H) (p2 : k ∉ ks → P .none ((putD H l ((ks ++ [k]).map ent)).set d (.ns (nput ns "is_new" (.bool true))))) : Ok (ar [.ref fl, .ref l, .ofKey k]) H P := by
 have hll : (ks.map ent).length ≤ lim := by simp only [List.length_map]; exact Nat.le_trans hl (by decide)
 refine a9 rfl (af (aD (aR (ak (ad rfl (ad rfl (pr hk (hV k) ho ⟨_, rfl, ?_⟩)))))))
 rw [ly]
 by_cases hm : k ∈ ks
 ·rw [decide_eq_true hm]
  exact ag ⟨rfl, ag (.inr ⟨rfl, p1 hm⟩)⟩
 ·rw [decide_eq_false hm]
  refine af (bi (ok_C (ad rfl (ad rfl (gE hk (hV k) ho hll ⟨rfl, ?_⟩)))))
  rw [oG hm]
  have ne : d ≠ l := fun q => by obtain ⟨n, e⟩ := hk; rw [← q, h2] at e; cases e
  have nf : fl ≠ l := fun q => by obtain ⟨n, e⟩ := hk; rw [← q, h1] at e; cases e
  have e1 : (putD H l ((ks ++ [k]).map ent))[fl]? = some (.inst 204 d) := by unfold putD; rw [List.getElem?_set_ne (fun q => nf q.symm)]; exact h1
  have e2 : (putD H l ((ks ++ [k]).map ent))[d]? = some (.ns ns) := by unfold putD; rw [List.getElem?_set_ne (fun q => ne q.symm)]; exact h2
  exact af (aW (ok_C (ad rfl (kD e1 e2 h3 ⟨rfl, ag ⟨rfl, ag (.inr ⟨rfl, p2 hm⟩)⟩⟩))))
theorem kT (F : Fix) (b : Bool) : nput (F.ns b) "is_new" (.bool true) = F.ns true := rfl
theorem jW (R : Flow F H A S) {f : Fact} (hf : A.has f.cont) {v : V} (hv : v = .ofKey f.key) {l : Nat} (hl : l = A.loc F f.cont) : Ok (ar [.ref F.fl, .ref l, v]) H fun ξ H' => GoA F (fun τ => τ f) H A S H' := by
 subst hv hl
 obtain ⟨fs, h1, h2, h3⟩ := R.set _ hf
 obtain ⟨b, hd⟩ := R.d
 refine kE R.fl hd (by simp [Fix.ns]) h1 (by rw [List.length_map]; exact Nat.le_trans (ia h2) (by decide)) (dz fun x hx => ?_) (fun hm => ?_) fun hm => ?_
 ·obtain ⟨g, hg, rfl⟩ := List.mem_map.mp hx
  exact Fact.isP ((h3 g).mp hg).2
 ·obtain ⟨g, hg, e⟩ := List.mem_map.mp hm
  obtain ⟨hs, hc⟩ := (h3 g).mp hg
  obtain rfl := Fact.key_inj hc e
  exact ⟨S, R, .refl, .refl hs⟩
 ·rw [kT]
  obtain ⟨r, fr⟩ := R.put hf h1 hm
  exact ⟨_, r, fr, .add⟩
end
section
variable {H H' : MH} {P : V → MH → Prop} {B : Bool → MH → Prop} {T : Fl × Loc → MH → Prop} {loc : Loc}
noncomputable def Tk.word : Tk → Str
 | .out _ => "outer"
 | .site _ => "site"
 | .beyond => "beyond"
noncomputable def Tk.isS : Tk → Bool
 | .site _ => true
 | _ => false
noncomputable def Tk.isO : Tk → Bool
 | .out _ => true
 | _ => false
noncomputable def Tk.isB : Tk → Bool
 | .beyond => true
 | _ => false
theorem pg {t : Tk} (h : P (.str t.word) H) : Ok (ah t.v (.int 0)) H P := by
 cases t with
 | out o => exact bB (i := 0) (by decide) rfl h
 | site o => exact bB (i := 0) (by decide) rfl h
 | beyond => exact bB (i := 0) (by decide) rfl h
theorem bx {neg : Bool} {x y : Str} (hx : Key.ok (.p (.str x)) = true) (hy : Key.ok (.p (.str y)) = true) (h : P (.bool (neg.xor (decide (x = y)))) H) : Ok (mEqB neg (.str x) (.str y)) H P :=
 pu (k := .p (.str x)) (k' := .p (.str y)) rfl rfl hx hy (fun ξ e => by cases e) (fun ξ e => by cases e) (by simp only [Key.p.injEq, Prim.str.injEq]; exact h)
theorem oq : Key.ok (.p (.str "site")) = true := by decide +kernel
theorem mz : Key.ok (.p (.str "outer")) = true := by decide +kernel
theorem k6 : Key.ok (.p (.str "beyond")) = true := by decide +kernel
theorem Tk.word_ok (t : Tk) : Key.ok (.p (.str t.word)) = true := by cases t; exact mz; exact oq; exact k6
theorem Tk.word_site (t : Tk) : decide (t.word = "site") = t.isS := by cases t with
 | out o => exact (by decide : decide (("outer" : Str) = "site") = false)
 | site o => exact (by decide : decide (("site" : Str) = "site") = true)
 | beyond => exact (by decide : decide (("beyond" : Str) = "site") = false)
theorem Tk.word_outer (t : Tk) : decide (t.word = "outer") = t.isO := by cases t with
 | out o => exact (by decide : decide (("outer" : Str) = "outer") = true)
 | site o => exact (by decide : decide (("site" : Str) = "outer") = false)
 | beyond => exact (by decide : decide (("beyond" : Str) = "outer") = false)
theorem Tk.word_beyond (t : Tk) : decide (t.word = "beyond") = t.isB := by cases t with
 | out o => exact (by decide : decide (("outer" : Str) = "beyond") = false)
 | site o => exact (by decide : decide (("site" : Str) = "beyond") = false)
 | beyond => exact (by decide : decide (("beyond" : Str) = "beyond") = true)
theorem du {neg : Bool} {t : Tk} {f : EM V} (h : Ok (f loc) H fun v H' => v = t.v ∧ B (neg.xor t.isS) H') : Ok (bV (e2 (mEqB neg) (e2 ah f (eC (.int 0))) (eC (.str "site"))) loc) H B :=
 aR (ak (ak (h.mono fun v H' q => by obtain ⟨rfl, q⟩ := q; exact ok_C (pg (ok_C (bx t.word_ok oq ⟨_, rfl, by rw [Tk.word_site]; exact q⟩))))))
theorem fS {neg : Bool} {t : Tk} {f : EM V} (h : Ok (f loc) H fun v H' => v = t.v ∧ B (neg.xor t.isO) H') : Ok (bV (e2 (mEqB neg) (e2 ah f (eC (.int 0))) (eC (.str "outer"))) loc) H B :=
 aR (ak (ak (h.mono fun v H' q => by obtain ⟨rfl, q⟩ := q; exact ok_C (pg (ok_C (bx t.word_ok mz ⟨_, rfl, by rw [Tk.word_outer]; exact q⟩))))))
theorem lS {neg : Bool} {t : Tk} {f : EM V} (h : Ok (f loc) H fun v H' => v = t.v ∧ B (neg.xor t.isB) H') : Ok (bV (e2 (mEqB neg) (e2 ah f (eC (.int 0))) (eC (.str "beyond"))) loc) H B :=
 aR (ak (ak (h.mono fun v H' q => by obtain ⟨rfl, q⟩ := q; exact ok_C (pg (ok_C (bx t.word_ok k6 ⟨_, rfl, by rw [Tk.word_beyond]; exact q⟩))))))
theorem pt {neg : Bool} {t u : Tk} (h : P (.bool (neg.xor (decide (t.key = u.key)))) H) : Ok (mEqB neg t.v u.v) H P :=
 pu t.v_key u.v_key t.key_ok u.key_ok (fun l e => by cases t <;> cases e) (fun l e => by cases u <;> cases e) h
theorem ok_forL1 {ok : MH → Prop} {b : TM} {g : SM} {v : V} (h : ok H ∧ ∃ loc₁, b v loc = some loc₁ ∧ Ok (g loc₁) H fun x H' => (x.1 = .next ∨ x.1 = .cont) ∧ ok H' ∧ T (.next, x.2) H') : Ok (bt ok b g [v] loc) H T :=
 qd (fun l lc h' => (l = [v] ∧ lc = loc ∧ h' = H) ∨ (l = [] ∧ ok h' ∧ T (.next, lc) h')) [v] loc H (.inl ⟨rfl, rfl, rfl⟩) (fun w r lc h' q => by
  rcases q with ⟨q, rfl, rfl⟩ | ⟨q, _⟩
  ·cases q
   obtain ⟨a, l₁, b', c⟩ := h
   exact ⟨a, l₁, b', c.mono fun x h' q => ⟨q.1, .inr ⟨rfl, q.2⟩⟩⟩
  ·cases q) fun lc h' q => by
  rcases q with ⟨q, _⟩ | ⟨_, q⟩
  ·cases q
  ·exact q
theorem aS {b : TM} {g : SM} {f : EM V} {l : Nat} {xs : List V} (h : Ok (f loc) H fun v H' => v = .ref l ∧ H'[l]? = some (.list xs) ∧ Ok (bt (fun h => h[l]? = some (.list xs)) b g xs loc) H' T) : Ok (sFor (itV f) b g loc) H T :=
 b5 (bK (h.mono fun v H' q => by obtain ⟨rfl, e, q⟩ := q; exact bh e q))
theorem nR {b : TM} {g : SM} {f : EM V} {l : Nat} {es : List (Key × V)} (h : Ok (f loc) H fun v H' => v = .ref l ∧ ∃ n, H'[l]? = some (.dict es n) ∧ Ok (bt (fun h => h[l]? = some (.dict es n)) b g (es.map fun e => .ofKey e.1) loc) H' T) : Ok (sFor (itV f) b g loc) H T :=
 b5 (bK (h.mono fun v H' q => by obtain ⟨rfl, n, e, q⟩ := q; exact dE e q))
noncomputable def TokD (H : MH) (l : Nat) (us : List Tk) : Prop := IsD H l ((us.map Tk.key).map ent) ∧ us.Nodup
theorem mem_key {us : List Tk} {t : Tk} : t.key ∈ us.map Tk.key ↔ t ∈ us :=
 ⟨fun h => by obtain ⟨u, hu, e⟩ := List.mem_map.mp h; rw [← Tk.key_inj e]; exact hu, fun h => List.mem_map.mpr ⟨t, h, rfl⟩⟩
theorem jr {l : Nat} {us : List Tk} {t : Tk} (x : TokD H l us) (h : ∀ us' es, TokD (putD H l es) l us' → (∀ u, u ∈ us' ↔ u ∈ us ∨ u = t) → P .none (putD H l es)) : Ok (cg (.ref l) t.v (.bool true)) H P := by
 obtain ⟨x, nd⟩ := x
 refine gE x t.v_key (dz fun y hy => ?_) ?_ ?_
 ·obtain ⟨u, ξ, rfl⟩ := List.mem_map.mp hy
  rw [Tk.key_t, Tk.key_t]
 ·simp only [List.length_map]
  exact Nat.le_trans (d9 nd) (by decide)
 ·by_cases hm : t ∈ us
  ·rw [dput_old (mem_key.mpr hm)]
   exact h us _ ⟨gf x, nd⟩ fun u => ⟨.inl, fun q => q.elim id fun q => q ▸ hm⟩
  ·rw [oG (fun q => hm (mem_key.mp q))]
   refine h (us ++ [t]) _ ⟨?_, ?_⟩ fun u => by simp
   ·have : us.map Tk.key ++ [t.key] = (us ++ [t]).map Tk.key := by simp
    rw [this]
    exact gf x
   ·exact List.nodup_append.mpr ⟨nd, by simp, fun a ha b hb e => hm (by rw [List.mem_singleton.mp hb] at e; exact e ▸ ha)⟩
theorem mx : ∀ us : List Tk, bz (us.map Tk.v) = some (us.map Tk.key)
 | [] => rfl
 | t :: r => by
  exact eD (Tk.v_key t) (mx r) (Tk.key_ok t)
theorem cV {α β : Type} {f : α → β} : ∀ {l : List α}, (l.map f).Nodup → l.Nodup
 | [], _ => .nil
 | a :: r, h => by
  simp only [List.map_cons, List.nodup_cons] at h ⊢
  exact ⟨fun q => h.1 (List.mem_map.mpr ⟨a, q, rfl⟩), cV h.2⟩
theorem l6 (us : List Tk) : ((us.map Tk.key).map ent).map (fun e => V.ofKey e.1) = us.map Tk.v := by
 simp only [List.map_map]
 exact List.map_congr_left fun t ξ => t.of_key
theorem TokD.ext {l : Nat} {us : List Tk} (x : TokD H l us) (e : Ext H H') : TokD H' l us := ⟨e.isD x.1, x.2⟩
theorem iw {l : Nat} {us : List Tk} (x : TokD H l us) (h : P (.ref H.length) (H ++ [.list (us.map Tk.v)])) : Ok (eG [.ref l]) H P := by
 refine pn x.1 ?_ ?_
 ·simp only [List.length_map]
  exact Nat.le_trans (d9 x.2) (by decide)
 ·rw [l6]
  exact h
end
section
variable {F : Fix} {H H' H'' : MH} {A A' A'' : At} {S S' : St} {P : V → MH → Prop} {loc : Loc}
theorem Flow.ns_inst (R : Flow F H A S) {name : Str} {v : V} (hn : ∀ b, nget (F.ns b) name = some v) (hr : v.isRaw = false) {f : EM V} (h : Ok (f loc) H fun u H' => u = .ref F.fl ∧ Flow F H' A S ∧ P v H') : Ok (e1 (aG 204 name) f loc) H P :=
 cA (h.mono fun u H' q => by
  obtain ⟨rfl, R', q⟩ := q
  obtain ⟨b, hd⟩ := R'.d
  exact bE R'.fl hd (hn b) hr q)
theorem Flow.at_summary (R : Flow F H A S) (hl : loc[0]? = some (some (.ref F.fl))) (h : P (.ref F.su) H) : Ok (e1 (aG 204 "summary") (eLoc 0) loc) H P := R.ns_inst (fun ξ => rfl) rfl (ad hl ⟨rfl, R, h⟩)
theorem Flow.at_inside (R : Flow F H A S) (hl : loc[0]? = some (some (.ref F.fl))) (h : P (.ref F.di) H) : Ok (e1 (aG 204 "inside") (eLoc 0) loc) H P := R.ns_inst (fun ξ => rfl) rfl (ad hl ⟨rfl, R, h⟩)
theorem Flow.at_held (R : Flow F H A S) (hl : loc[0]? = some (some (.ref F.fl))) (h : P (.ref F.dh) H) : Ok (e1 (aG 204 "held") (eLoc 0) loc) H P := R.ns_inst (fun ξ => rfl) rfl (ad hl ⟨rfl, R, h⟩)
theorem Flow.at_gone (R : Flow F H A S) (hl : loc[0]? = some (some (.ref F.fl))) (h : P (.ref F.dg) H) : Ok (e1 (aG 204 "gone") (eLoc 0) loc) H P := R.ns_inst (fun ξ => rfl) rfl (ad hl ⟨rfl, R, h⟩)
theorem Flow.at_summaries (R : Flow F H A S) (hl : loc[0]? = some (some (.ref F.fl))) (h : P (.ref F.sm) H) : Ok (e1 (aG 204 "summaries") (eLoc 0) loc) H P := R.ns_inst (fun ξ => rfl) rfl (ad hl ⟨rfl, R, h⟩)
theorem Flow.at_kept (R : Flow F H A S) (hl : loc[0]? = some (some (.ref F.fl))) (h : P (.ref F.kp) H) : Ok (e1 (aG 54 "kept") (e1 (aG 204 "summary") (eLoc 0)) loc) H P := cA (R.at_summary hl (bE R.su R.sd rfl rfl h))
theorem Flow.at_leaks (R : Flow F H A S) (hl : loc[0]? = some (some (.ref F.fl))) (h : P (.ref F.lv) H) : Ok (e1 (aG 54 "leaks") (e1 (aG 204 "summary") (eLoc 0)) loc) H P := cA (R.at_summary hl (bE R.su R.sd rfl rfl h))
theorem Flow.bound (R : Flow F H A S) {name : Str} (hn : ∀ b, nget (F.ns b) name = none) (h : P (.ref F.fl) H) : Ok (au 204 name (.ref F.fl)) H P := by
 obtain ⟨b, hd⟩ := R.d
 exact n4 R.fl hd (hn b) h
theorem Flow.call (R : Flow F H A S) {name : Str} {m : List V → OM V} {fa : EM (List V)} (hl : loc[0]? = some (some (.ref F.fl))) (hn : ∀ b, nget (F.ns b) name = none) (h : Ok (fa loc) H fun l H' => Ok (m (.ref F.fl :: l)) H' P) : Ok (aw (au 204 name) m (eLoc 0) fa loc) H P :=
 bn (ad hl (R.bound hn h))
theorem oM {F : Fix} {A : At} (cs : List Cont) : allP (cs.map fun c => (Key.p c.nm, V.ref (A.loc F c))) = true := by
 unfold allP
 simp [Key.isP]
theorem fk {g : Cont → V} : ∀ {cs : List Cont} {c : Cont} {p : Bool}, (∀ x ∈ cs, x.tab = some p) → c.tab = some p → dget (cs.map fun c => (Key.p c.nm, g c)) (.p c.nm) = some (g c) ∧ c ∈ cs ∨ dget (cs.map fun c => (Key.p c.nm, g c)) (.p c.nm) = none ∧ c ∉ cs
 | [], c, p, _, _ => .inr ⟨rfl, fun h => by cases h⟩
 | x :: r, c, p, hx, hc => by
  unfold dget
  simp only [List.map_cons, List.find?_cons, Key.p.injEq]
  by_cases h : x.nm = c.nm
  ·obtain rfl := Cont.nm_inj (hx x (List.mem_cons_self ..)) hc h
   exact .inl ⟨by simp, List.mem_cons_self ..⟩
  ·have ne : c ≠ x := fun q => h (by rw [q])
   rcases fk (g := g) (fun y hy => hx y (List.mem_cons_of_mem _ hy)) hc with ⟨a, b⟩ | ⟨a, b⟩
   ·exact .inl ⟨by rw [decide_eq_false h]; exact a, List.mem_cons_of_mem _ b⟩
   ·exact .inr ⟨by rw [decide_eq_false h]; exact a, fun q => (List.mem_cons.mp q).elim ne b⟩
noncomputable def Cont.of : Cont → Tk → Fact
 | .held r, t => .held r t
 | .ins s, t => .ins s t
 | _, _ => .gone .a
noncomputable def Fact.tk : Fact → Tk
 | .held _ t => t
 | .ins _ t => t
 | _ => .beyond
theorem Cont.of_inj {c : Cont} {p : Bool} (hc : c.tab = some p) {t u : Tk} (h : c.of t = c.of u) : t = u := by
 cases c <;> simp only [Cont.tab, reduceCtorEq] at hc <;> simp only [Cont.of, Fact.held.injEq, Fact.ins.injEq, true_and] at h <;> exact h
theorem Cont.of_key {c : Cont} {p : Bool} (hc : c.tab = some p) (t : Tk) : (c.of t).key = t.key := by
 cases c <;> simp only [Cont.tab, reduceCtorEq] at hc <;> rfl
theorem Cont.of_cont {c : Cont} {p : Bool} (hc : c.tab = some p) (t : Tk) : (c.of t).cont = c := by
 cases c <;> simp only [Cont.tab, reduceCtorEq] at hc <;> rfl
theorem Cont.of_tk {c : Cont} {p : Bool} (hc : c.tab = some p) {f : Fact} (h : f.cont = c) : f = c.of f.tk := by
 subst h
 cases f <;> simp only [Fact.cont, Cont.tab, reduceCtorEq] at hc <;> rfl
theorem pY {c : Cont} {p : Bool} (hc : c.tab = some p) {fs : List Fact} (nd : fs.Nodup) (z : ∀ f, f ∈ fs ↔ S f ∧ f.cont = c) : ∃ ts : List Tk, fs = ts.map c.of ∧ fs.map Fact.key = ts.map Tk.key ∧ ts.Nodup ∧ ∀ t, t ∈ ts ↔ S (c.of t) := by
 have e : fs = (fs.map Fact.tk).map c.of := by
  rw [List.map_map]
  exact (List.map_id fs).symm.trans (List.map_congr_left fun f hf => Cont.of_tk hc ((z f).mp hf).2)
 refine ⟨fs.map Fact.tk, e, ?_, ?_, fun t => ?_⟩
 ·rw [List.map_map]
  exact List.map_congr_left fun f hf => by
   show f.key = f.tk.key
   rw [← Cont.of_key hc f.tk, ← Cont.of_tk hc ((z f).mp hf).2]
 ·rw [e] at nd
  exact cV nd
 ·constructor
  ·intro h
   obtain ⟨f, hf, rfl⟩ := List.mem_map.mp h
   rw [← Cont.of_tk hc ((z f).mp hf).2]
   exact ((z f).mp hf).1
  ·intro h
   have := (z (c.of t)).mpr ⟨h, Cont.of_cont hc t⟩
   rw [e] at this
   obtain ⟨u, hu, eu⟩ := List.mem_map.mp this
   rw [← Cont.of_inj hc eu]
   exact hu
theorem Flow.get (R : Flow F H A S) {c : Cont} {p : Bool} (hc : c.tab = some p) {kv : V} (hk : kv.prim? = some c.nm) {e : Nat} (he : IsD H e [])
  (h : ∀ l ts, TokD H l ts → (l = e ∨ Own F A l) → (∀ t, t ∈ ts ↔ S (c.of t)) → P (.ref l) H) : Ok (mGet [.ref (F.tab p), kv, .ref e]) H P := by
 obtain ⟨t, nd, ht⟩ := R.tab p
 refine iA t hk (oM _) ?_
 rcases fk (g := fun c => V.ref (A.loc F c)) ht hc with ⟨a, b⟩ | ⟨a, b⟩
 ·rw [a]
  have : A.has c := by unfold At.has; rw [hc]; exact b
  obtain ⟨fs, x, y, z⟩ := R.set c this
  obtain ⟨ts, e1, e2, e3, e4⟩ := pY hc y z
  exact h _ ts ⟨by rw [← e2]; exact x, e3⟩ (.inr (.inr (.inr ⟨c, this, rfl⟩))) e4
 ·rw [a]
  refine h e [] ⟨he, .nil⟩ (.inl rfl) fun t => ⟨fun q => (by cases q), fun q => ?_⟩
  have := R.dom _ q
  unfold At.has at this
  rw [Cont.of_cont hc, hc] at this
  exact absurd this b
theorem Flow.inGone (R : Flow F H A S) {neg : Bool} {s : Site} (h : ∀ b : Bool, (b = true ↔ S (.gone s)) → P (.bool (neg.xor b)) H) : Ok (mIn neg (.str s.str) (.ref F.dg)) H P := by
 obtain ⟨fs, x, y, z⟩ := R.set .gone trivial
 refine pr x (k := .p (.str s.str)) rfl (dz fun k hk => ?_) ?_
 ·obtain ⟨g, hg, rfl⟩ := List.mem_map.mp hk
  have := ((z g).mp hg).2
  cases g <;> first | rfl | cases this
 ·rw [ly]
  refine h _ ?_
  rw [decide_eq_true_iff]
  constructor
  ·intro q
   obtain ⟨g, hg, e⟩ := List.mem_map.mp q
   obtain ⟨a, b⟩ := (z g).mp hg
   obtain rfl := Fact.key_inj (g := .gone s) b e
   exact a
  ·intro q
   exact List.mem_map.mpr ⟨.gone s, (z _).mpr ⟨q, rfl⟩, rfl⟩
theorem dl {s : Site} (h : P (.str s.str) H) : Ok (ah (Tk.site s).v (.int 1)) H P := bB (i := 1) (by decide) rfl h
theorem gi {o : Bool} (h : P (.int (oi o)) H) : Ok (ah (Tk.out o).v (.int 1)) H P := bB (i := 1) (by decide) rfl h
inductive Loaded (F : Fix) (H : MH) (S : St) (t : Tk) (v : V) (H' : MH) : Prop where
 | mk (l : Nat) (us : List Tk) (h0 : v = .ref l) (h1 : H'[l]? = some (.list (us.map Tk.v))) (h2 : us.Nodup) (h3 : ∀ u, load S t u → u ∈ us) (h4 : ∀ u ∈ us, u = t ∨ load S t u) (h5 : Ext H H') (h6 : H.length ≤ l) : Loaded F H S t v H'
theorem gk {l : Nat} {us : List Tk} {t : Tk} {H₀ : MH} (x : TokD H l us) (e : Ext H₀ H) (hl : H₀.length ≤ l) (h : ∀ us' H', TokD H' l us' → Ext H₀ H' → (∀ u, u ∈ us' ↔ u ∈ us ∨ u = t) → P .none H') : Ok (cg (.ref l) t.v (.bool true)) H P :=
 jr x fun us' es a b => h us' _ a (e.put hl) b
theorem Ext.gro {l : Nat} (a : Ext H H') (b : Gro (fun i => i = l) H' H'') (h : H.length ≤ l) : Ext H H'' := ⟨Nat.le_trans a.1 b.1, fun i hi => by
 have hi' := Nat.lt_of_lt_of_le hi a.1
 have e := b.2 i _ (List.getElem?_eq_getElem hi') (by omega)
 rw [e, ← List.getElem?_eq_getElem hi']
 exact a.2 i hi⟩
inductive AddTk (lf : Nat) (us : List Tk) (H : MH) (ds : List Tk) (H' : MH) : Prop
 | mk (us' : List Tk) (x : TokD H' lf us') (e : Gro (fun j => j = lf) H H') (hu : ∀ u, u ∈ us' ↔ u ∈ us ∨ u ∈ ds) : AddTk lf us H ds H'
theorem q7 {mk : Option V → Loc} {i lf : Nat} {T : Fl × Loc → MH → Prop} (h2 : ∀ w, (mk w)[2]? = some (some (.ref lf))) (hi : ∀ v, (mk (some v))[i]? = some (some v)) (hset : ∀ w v, (mk w).set i (some v) = mk (some v))
  {ok : MH → Prop} (hok : ∀ H', Gro (fun j => j = lf) H H' → ok H') (w : Option V) {ts us : List Tk} (x : TokD H lf us) (h : ∀ w' us' H', TokD H' lf us' → Gro (fun j => j = lf) H H' → (∀ u, u ∈ us' ↔ u ∈ us ∨ u ∈ ts) → T (.next, mk w') H') :
  Ok (bt ok (aT i) (ai (bI (eLoc 2) (eLoc i) (eC (.bool true))) sNil) (ts.map Tk.v) (mk w)) H T :=
 cj (AddTk lf us H) (fun ds H' q => by obtain ⟨us', x, e, ξ⟩ := q; exact hok _ e) (fun ds t rs w H' ξ q => by
  obtain ⟨us', x, e, hu⟩ := q
  refine ⟨mk (some t.v), by unfold aT; rw [hset], af (bi (ok_C (ad (h2 _) (ad (hi _) (jr x fun us'' es x' hu' => ⟨rfl, ag ⟨.inl rfl, ⟨_, rfl⟩, us'', x', e.trans (nH rfl), fun u => ?_⟩⟩)))))⟩
  rw [hu', hu]
  simp only [List.mem_append, List.mem_singleton, or_assoc]) w ⟨us, x, .refl, fun u => by simp⟩ fun w' H' q => by
  obtain ⟨us', x, e, hu⟩ := q
  exact h w' us' H' x e hu
theorem eT (i : Option Bool) : Key.ok (.p (.int (ii i))) = true := by rcases i with _ | (_ | _) <;> decide +kernel
theorem gG {neg : Bool} {i j : Int} (hi : Key.ok (.p (.int i)) = true) (hj : Key.ok (.p (.int j)) = true) (h : P (.bool (neg.xor (decide (i = j)))) H) : Ok (mEqB neg (.int i) (.int j)) H P :=
 pu (k := .p (.int i)) (k' := .p (.int j)) rfl rfl hi hj (fun ξ e => by cases e) (fun ξ e => by cases e) (by simp only [Key.p.injEq, Prim.int.injEq]; exact h)
theorem lim1 : 1 ≤ lim := by decide
theorem lim2 : 2 ≤ lim := by decide
theorem lim3 : 3 ≤ lim := by decide
theorem ok_unin {a : Nat} {i : Option Bool} (hl : loc[a]? = some (some (.int (ii i)))) (h : P (unin i).v H) : Ok (eIf (bV (e2 mEq (eLoc a) (eC (.int (-1))))) (eC (.tup [.str "beyond"])) (av (ac (eC (.str "outer")) (ac (eLoc a) lNil))) loc) H P :=
 bM (aR (ak (ad hl (ok_C (gG (eT i) (by decide +kernel) ⟨_, rfl, by
  rcases i with _ | o
  ·exact ok_C h
  ·have : decide (ii (some o) = -1) = false := by cases o <;> decide
   rw [this]
   exact aB (aa (ok_C (aa (ad hl (ae ⟨lim2, h⟩)))))⟩)))))
theorem Flow.keptSet (R : Flow F H A S) : ∃ ps : List (Option Bool × Bool), IsD H F.kp ((ps.map fun p => (Fact.kept p.1 p.2).key).map ent) ∧ ps.Nodup ∧ ∀ i o, (i, o) ∈ ps ↔ S (.kept i o) := by
 obtain ⟨fs, x, y, z⟩ := R.set .kept trivial
 have e : fs = (fs.map fun f => match f with | .kept i o => (i, o) | _ => (none, false)).map fun p => Fact.kept p.1 p.2 := by
  rw [List.map_map]
  exact (List.map_id fs).symm.trans (List.map_congr_left fun f hf => by
   have := ((z f).mp hf).2
   cases f <;> first | rfl | cases this)
 generalize (fs.map fun f => match f with | .kept i o => (i, o) | _ => (none, false)) = ps at e
 subst e
 refine ⟨ps, by simp only [List.map_map] at x ⊢; exact x, cV y, fun i o => ?_⟩
 have := z (.kept i o)
 simp only [Fact.cont, and_true] at this
 rw [← this]
 constructor
 ·intro h; exact List.mem_map.mpr ⟨_, h, rfl⟩
 ·intro h
  obtain ⟨⟨i', o'⟩, h, e⟩ := List.mem_map.mp h
  simp only [Fact.kept.injEq] at e
  rw [← e.1, ← e.2]
  exact h
inductive LoadAt (S : St) (t : Tk) (lf : Nat) (us : List Tk) (H : MH) (ds : List (Option Bool × Bool)) (H' : MH) : Prop
 | mk (us' : List Tk) (x : TokD H' lf us') (e : Ext H H') (h1 : ∀ u ∈ us', u = t ∨ load S t u) (h2 : ∀ u ∈ us, u ∈ us') (h3 : ∀ i o, (i, o) ∈ ds → t = .out o → unin i ∈ us') : LoadAt S t lf us H ds H'
theorem kG (R : Flow F H A S) {t : Tk} (hns : t.isS = false) {lt : Nat} (ht : H[lt]? = some (.list [t.v])) {mk : Option V → Option V → Loc} {T : Fl × Loc → MH → Prop} {lf : Nat} {H₁ : MH} (e : Ext H H₁) (hlf : H.length ≤ lf) {us : List Tk} (x : TokD H₁ lf us) (hus : ∀ u ∈ us, u = t ∨ load S t u)
  (m0 : ∀ w z, (mk w z)[0]? = some (some (.ref F.fl))) (m2 : ∀ w z, (mk w z)[2]? = some (some (.ref lf))) (m3 : ∀ w z, (mk w z)[3]? = some (some t.v)) (m4 : ∀ w z, (mk (some w) (some z))[4]? = some (some w)) (m5 : ∀ w z, (mk (some w) (some z))[5]? = some (some z)) (mset : ∀ w z w' z', ((mk w z).set 4 (some w')).set 5 (some z') = mk (some w') (some z')) (w z : Option V)
  (h : ∀ w z us' H', TokD H' lf us' → Ext H H' → (∀ u ∈ us', u = t ∨ load S t u) → (∀ u ∈ us, u ∈ us') → (∀ u, load S t u → u ∈ us') → T (.next, mk w z) H') :
  Ok (sFor (itV (e1 (aG 54 "kept") (e1 (aG 204 "summary") (eLoc 0)))) (eX 4 5)
  (ai (sIf (bV (e2 mEq (eLoc 3) (av (ac (eC (.str "outer")) (ac (eLoc 5) (lNil))))))
  (ai (bI (eLoc 2) (eIf (bV (e2 mEq (eLoc 4) (eC (.int (-1))))) (eC (.tup [.str "beyond"])) (av (ac (eC (.str "outer")) (ac (eLoc 4) (lNil))))) (eC (.bool true)))
 (sNil))
  (sNil))
 (sNil)) (mk w z)) H₁ T := by
 obtain ⟨ps, hd, nd, hp⟩ := R.keptSet
 have hd₁ := e.isD hd
 obtain ⟨n, hn⟩ := hd
 have hn₁ := e.get hn
 refine nR ((R.ext e).at_kept (m0 _ _) ⟨rfl, n, hn₁, ?_⟩)
 have hm : ((ps.map fun p => (Fact.kept p.1 p.2).key).map ent).map (fun e => V.ofKey e.1) = ps.map fun p => V.ofKey (Fact.kept p.1 p.2).key := by simp only [List.map_map]; rfl
 rw [hm]
 refine cj (mk := fun y : Option V × Option V => mk y.1 y.2) (LoadAt S t lf us H) (fun ds H' q => ?_) (fun ds p rs y H' ep q => ?_) (w, z) ⟨us, x, e, hus, fun ξ h => h, fun ξ ξ h => by cases h⟩ fun y H' q => ?_
 ·obtain ⟨us', x, e', ξ⟩ := q
  exact e'.get hn
 ·obtain ⟨us', x, e', h1, h2, h3⟩ := q
  obtain ⟨i, o⟩ := p
  obtain ⟨w, z⟩ := y
  refine ⟨mk (some (.int (ii i))) (some (.int (oi o))), by show some (((mk w z).set 4 (some (.int (ii i)))).set 5 (some (.int (oi o)))) = _; rw [mset], af (aD (aR (ak (ad (m3 _ _) (aB (aa (ok_C (aa (ad (m5 _ _) (ae ⟨lim2, pt (u := .out o) ⟨_, rfl, ?_⟩⟩))))))))))⟩
  by_cases hq : t = .out o
  ·subst hq
   rw [decide_eq_true rfl]
   refine af (bi (ok_C (ad (m2 _ _) (ok_unin (m4 _ _) (gk x e' hlf fun us'' H'' x' e'' hu' => ⟨rfl, ag ⟨rfl, ag ⟨.inl rfl, ⟨(_, _), rfl⟩, ?_⟩⟩⟩)))))
   refine ⟨us'', x', e'', fun u hu => ?_, fun u hu => (hu' u).mpr (.inl (h2 u hu)), fun j o' hj ho => ?_⟩
   ·rcases (hu' u).mp hu with hu | rfl
    ·exact h1 u hu
    ·exact .inr ⟨i, (hp i o).mp (by rw [ep]; simp), rfl⟩
   ·rcases List.mem_append.mp hj with hj | hj
    ·exact (hu' _).mpr (.inl (h3 j o' hj ho))
    ·cases List.mem_singleton.mp hj
     exact (hu' _).mpr (.inr rfl)
  ·have : decide (t.key = (Tk.out o).key) = false := decide_eq_false fun q => hq (Tk.key_inj q)
   rw [this]
   refine ag ⟨rfl, ag ⟨.inl rfl, ⟨(_, _), rfl⟩, ?_⟩⟩
   refine ⟨us', x, e', h1, h2, fun j o' hj ho => ?_⟩
   rcases List.mem_append.mp hj with hj | hj
   ·exact h3 j o' hj ho
   ·cases List.mem_singleton.mp hj
    exact absurd ho hq
 ·obtain ⟨us', x, e', h1, h2, h3⟩ := q
  refine h y.1 y.2 us' H' x e' h1 h2 fun u hu => ?_
  cases t with
  | site s => cases hns
  | beyond => exact hu.elim
  | out o =>
   obtain ⟨i, hi, rfl⟩ := hu
   exact h3 i o ((hp i o).mpr hi) rfl
theorem q5 (R : Flow F H A S) {t : Tk} {lt : Nat} (ht : H[lt]? = some (.list [t.v])) : Ok (c7 [.ref F.fl, .ref lt]) H (Loaded F H S t) := by
 have x0 : TokD (H ++ [.dict [] 0]) H.length [] := ⟨⟨0, aj⟩, .nil⟩
 have e0 : Ext H (H ++ [.dict [] 0]) := .app
 refine a9 rfl (af (aO (cq ⟨rfl, ?_⟩)))
 refine af (aS (ad rfl ⟨rfl, e0.get ht, ok_forL1 ⟨e0.get ht, _, rfl, ?_⟩⟩))
 have fin : ∀ (lc : Loc) (H' : MH) (us : List Tk), lc[2]? = some (some (.ref H.length)) → TokD H' H.length us → Ext H H' → (∀ u, load S t u → u ∈ us) → (∀ u ∈ us, u = t ∨ load S t u) →
   Ok (ai (sRet (eL eG (ac (eLoc 2) lNil))) sNil lc) H' fun r H'' => (∃ v, r.1 = .ret v ∧ Loaded F H S t v H'') ∨ (r.1 = .next ∧ Loaded F H S t .none H'') := by
  intro lc H' us hl x e h1 h2
  exact aK (bZ (aC (aa (ad hl (ae (iw x (.inl ⟨_, rfl, _, us, rfl, aj, x.2, h1, h2, e.trans .app, e.1⟩)))))))
 cases t with
 | site s =>
  refine af (aD (du (t := .site s) (ad rfl ⟨rfl, ag ⟨rfl, ?_⟩⟩)))
  have R0 := R.ext e0
  have hd : IsD (H ++ [MObj.dict [] 0] ++ [MObj.dict [] 0]) (H ++ [MObj.dict [] 0]).length [] := ⟨0, aj⟩
  have e2 : Ext H (H ++ [MObj.dict [] 0] ++ [MObj.dict [] 0]) := e0.trans .app
  refine af (b5 (bK (bn (R0.at_inside rfl (b8 (R0.tab true).1 (aa (ak (ad rfl (ok_C (dl (aa (cq (ae ((R.ext e2).get (c := .ins s) (p := true) rfl rfl hd fun l ts hx hl hts => ?_))))))))))))))
  obtain ⟨⟨n, hn⟩, nd⟩ := hx
  have hne : l ≠ H.length := by
   rcases hl with rfl | hl
   ·simp
   ·exact Nat.ne_of_lt (R.own_lt hl)
  refine dE hn ?_
  show Ok (bt _ _ _ (((ts.map Tk.key).map ent).map fun e => V.ofKey e.1) _) _ _
  rw [l6]
  refine q7 (mk := fun w => [some (.ref F.fl), some (.ref lt), some (.ref H.length), some (Tk.site s).v, w, none, none, none, none]) (lf := H.length) (fun ξ => rfl) (fun ξ => rfl) (fun ξ ξ => rfl) (fun H' g => g.2 _ _ hn hne) none (us := []) ⟨x0.1.gro (W := fun ξ => False) .app (fun h => h), .nil⟩ fun w us H' x g hu => ⟨rfl, ?_⟩
  have e' := e2.gro g (Nat.le_refl _)
  refine af (aD (aR (ak (ak (ad rfl (ok_C (dl ((R.ext e').at_gone rfl ((R.ext e').inGone fun b hb => ⟨_, rfl, ?_⟩)))))))))
  cases b with
  | true =>
   refine af (bi (ok_C (ad rfl (ok_C (gk (t := .beyond) x e' (Nat.le_refl _) fun us' H'' x'' e'' hu' => ⟨rfl, ag ⟨rfl, ag ⟨.inl rfl, e''.get ht, rfl, fin _ _ us' rfl x'' e'' (fun u h => ?_) fun u h => ?_⟩⟩⟩)))))
   ·rcases h with h | ⟨rfl, h⟩
    ·exact (hu' u).mpr (.inl ((hu u).mpr (.inr ((hts u).mpr h))))
    ·exact (hu' _).mpr (.inr rfl)
   ·rcases (hu' u).mp h with h | rfl
    ·rcases (hu u).mp h with h | h
     ·cases h
     ·exact .inr (.inl ((hts u).mp h))
    ·exact .inr (.inr ⟨rfl, hb.mp rfl⟩)
  | false =>
   refine ag ⟨rfl, ag ⟨.inl rfl, e'.get ht, rfl, fin _ _ us rfl x e' (fun u h => ?_) fun u h => ?_⟩⟩
   ·rcases h with h | ⟨rfl, h⟩
    ·exact (hu u).mpr (.inr ((hts u).mpr h))
    ·exact absurd (hb.mpr h) (by decide)
   ·rcases (hu u).mp h with h | h
    ·cases h
    ·exact .inr (.inl ((hts u).mp h))
 | out o =>
  refine aK (aD (du (t := .out o) (ad rfl ⟨rfl, ?_⟩)))
  refine af (bi (ok_C (ad rfl (ad rfl (gk (t := .out o) x0 e0 (Nat.le_refl _) fun us H' x e hu => ⟨rfl, ?_⟩)))))
  refine af (kG R (t := .out o) rfl ht e (Nat.le_refl _) x (fun u q => .inl (((hu u).mp q).elim (fun q => by cases q) id)) (mk := fun w z => [some (.ref F.fl), some (.ref lt), some (.ref H.length), some (Tk.out o).v, w, z, none, none, none]) (fun ξ ξ => rfl) (fun ξ ξ => rfl) (fun ξ ξ => rfl) (fun ξ ξ => rfl) (fun ξ ξ => rfl) (fun ξ ξ ξ ξ => rfl) none none fun w z us' H' x e h1 h2 h3 => ⟨rfl, ?_⟩)
  exact aK (nS ⟨.inr rfl, e.get ht, rfl, fin _ _ _ rfl x e h3 h1⟩)
 | beyond =>
  refine aK (aD (du (t := .beyond) (ad rfl ⟨rfl, ?_⟩)))
  refine af (bi (ok_C (ad rfl (ad rfl (gk (t := .beyond) x0 e0 (Nat.le_refl _) fun us H' x e hu => ⟨rfl, ?_⟩)))))
  refine af (kG R (t := .beyond) rfl ht e (Nat.le_refl _) x (fun u q => .inl (((hu u).mp q).elim (fun q => by cases q) id)) (mk := fun w z => [some (.ref F.fl), some (.ref lt), some (.ref H.length), some Tk.beyond.v, w, z, none, none, none]) (fun ξ ξ => rfl) (fun ξ ξ => rfl) (fun ξ ξ => rfl) (fun ξ ξ => rfl) (fun ξ ξ => rfl) (fun ξ ξ ξ ξ => rfl) none none fun w z us' H' x e h1 h2 h3 => ⟨rfl, ?_⟩)
  exact aK (nS ⟨.inr rfl, e.get ht, rfl, fin _ _ _ rfl x e h3 h1⟩)
end
section
variable {F : Fix} {H H' H'' : MH} {A A' A'' : At} {S S' : St} {P : V → MH → Prop} {loc : Loc}
theorem ok_inTok {neg : Bool} {l : Nat} {us : List Tk} {t : Tk} (x : TokD H l us) (h : ∀ b : Bool, (b = true ↔ t ∈ us) → P (.bool (neg.xor b)) H) : Ok (mIn neg t.v (.ref l)) H P := by
 refine pr x.1 t.v_key (dz fun k hk => ?_) ?_
 ·obtain ⟨u, ξ, rfl⟩ := List.mem_map.mp hk
  rw [Tk.key_t, Tk.key_t]
 ·rw [ly]
  exact h _ (by rw [decide_eq_true_iff]; exact mem_key)
inductive Got (H : MH) (X : Tk → Prop) (v : V) (H' : MH) : Prop where
 | mk (l : Nat) (us : List Tk) (h0 : v = .ref l) (h1 : H'[l]? = some (.list (us.map Tk.v))) (h2 : us.Nodup) (h3 : ∀ u, u ∈ us ↔ X u) (h4 : Ext H H') (h5 : H.length ≤ l) : Got H X v H'
inductive RS (S : St) (ts us ws : List Tk) : Prop
 | mk (h1 : ∀ u ∈ us, Reach S (· ∈ ts) u) (h2 : ∀ u ∈ ws, Reach S (· ∈ ts) u) (h3 : ∀ t ∈ ts, t ∈ us ∨ t ∈ ws) (h4 : ∀ u ∈ us, ∀ z, load S u z → z ∈ us ∨ z ∈ ws) : RS S ts us ws
theorem RS.start {S : St} {ts : List Tk} : RS S ts [] ts := ⟨(fun u h => by cases h), fun u h => .base h, fun t h => .inr h, fun u h => by cases h⟩
theorem RS.done {S : St} {ts us : List Tk} (r : RS S ts us []) (u : Tk) : u ∈ us ↔ Reach S (· ∈ ts) u := by
 obtain ⟨h1, h2, h3, h4⟩ := r
 refine ⟨h1 u, fun r => ?_⟩
 induction r with
 | base hx => exact (h3 _ hx).elim id fun q => by cases q
 | step _ hl ih => exact (h4 _ ih _ hl).elim id fun q => by cases q
theorem RS.old {S : St} {ts us ws : List Tk} {t : Tk} (r : RS S ts us (ws ++ [t])) (ht : t ∈ us) : RS S ts us ws := by
 obtain ⟨h1, h2, h3, h4⟩ := r
 have k : ∀ {z}, z ∈ us ∨ z ∈ ws ++ [t] → z ∈ us ∨ z ∈ ws := fun h => h.elim .inl fun h => (List.mem_append.mp h).elim .inr fun h => by rw [List.mem_singleton.mp h]; exact .inl ht
 exact ⟨h1, fun u h => h2 u (List.mem_append.mpr (.inl h)), fun z h => k (h3 z h), fun u hu z hz => k (h4 u hu z hz)⟩
theorem RS.new {S : St} {ts us us' ws ls : List Tk} {t : Tk} (r : RS S ts us (ws ++ [t])) (hu : ∀ z, z ∈ us' ↔ z ∈ us ∨ z = t) (q1 : ∀ z, load S t z → z ∈ ls) (q2 : ∀ z ∈ ls, z = t ∨ load S t z) : RS S ts us' (ws ++ ls) := by
 obtain ⟨h1, h2, h3, h4⟩ := r
 have rt := h2 t (List.mem_append.mpr (.inr (.head _)))
 have k : ∀ {z}, z ∈ us ∨ z ∈ ws ++ [t] → z ∈ us' ∨ z ∈ ws ++ ls := fun {z} h => h.elim (fun h => .inl ((hu z).mpr (.inl h))) fun h => (List.mem_append.mp h).elim (fun h => .inr (List.mem_append.mpr (.inl h))) fun h => .inl ((hu z).mpr (.inr (List.mem_singleton.mp h)))
 refine ⟨fun u h => ((hu u).mp h).elim (h1 u) fun e => e ▸ rt, fun u h => (List.mem_append.mp h).elim (fun h => h2 u (List.mem_append.mpr (.inl h))) fun h => (q2 u h).elim (fun e => e ▸ rt) fun h => .step rt h, fun z h => k (h3 z h), fun u h z hz => ((hu u).mp h).elim (fun h => k (h4 u h z hz)) fun e => .inr (List.mem_append.mpr (.inr (q1 z (e ▸ hz))))⟩
theorem len_new {us us' : List Tk} {t : Tk} (n : us.Nodup) (n' : us'.Nodup) (ht : t ∉ us) (hu : ∀ z, z ∈ us' ↔ z ∈ us ∨ z = t) : us'.length = us.length + 1 := by
 have ha : us'.length ≤ (t :: us).length := cr n' fun z hz => ((hu z).mp hz).elim (.tail _) fun e => e ▸ .head _
 have hb : (t :: us).length ≤ us'.length := cr (List.nodup_cons.mpr ⟨ht, n⟩) fun z hz => (hu z).mpr ((List.mem_cons.mp hz).symm)
 exact Nat.le_antisymm ha hb
theorem qW {a w l u u' : Nat} (lw : w + 1 = a) (ll : l ≤ 7) (lu : u' = u + 1) (h : u' ≤ 7) : w + l + 9 * (7 - u') < a + 9 * (7 - u) := by omega
theorem qV {w l u u' : Nat} (h : w + 1 ≤ 1000 + 8 * u) (ll : l ≤ 7) (lu : u' = u + 1) : w + l ≤ 1000 + 8 * u' := by omega
inductive ReachAt (F : Fix) (lt : Nat) (H : MH) (S : St) (ts : List Tk) (n : Nat) (lc : Loc) (H' : MH) : Prop
 | mk (w : Option V) (us ws : List Tk) (elc : lc = [some (.ref F.fl), some (.ref lt), some (.ref H.length), some (.ref (H.length + 1)), w, none]) (e : Ext H H') (x : TokD H' H.length us) (hw : H'[H.length + 1]? = some (.list (ws.map Tk.v))) (hle : ws.length ≤ 1000 + 8 * us.length) (hn : n = ws.length + 9 * (7 - us.length)) (rs : RS S ts us ws) : ReachAt F lt H S ts n lc H'
theorem iu (R : Flow F H A S) {ts : List Tk} {lt : Nat} (ht : H[lt]? = some (.list (ts.map Tk.v))) (hlen : ts.length ≤ 1000) : Ok (a8 [.ref F.fl, .ref lt]) H (Got H (Reach S (· ∈ ts))) := by
 have x0 : TokD (H ++ [.dict [] 0] ++ [.list (ts.map Tk.v)]) H.length [] := ⟨IsD.gro (W := fun ξ => False) (⟨0, aj⟩ : IsD (H ++ [MObj.dict [] 0]) H.length []) .app (fun h => h), .nil⟩
 have e0 : Ext H (H ++ [MObj.dict [] 0]) := .app
 have e1 : Ext H (H ++ [MObj.dict [] 0] ++ [MObj.list (ts.map Tk.v)]) := e0.trans .app
 have l1 : (H ++ [MObj.dict [] 0]).length = H.length + 1 := by simp
 refine a9 rfl (af (en (aB (aa (cq (aa (aC (aa (ad rfl (ae (jX (e0.get ht) (by rw [List.length_map]; exact Nat.le_trans hlen (by decide)) (ae ⟨lim2, _, rfl, rfl, ?_⟩))))))))))))
 refine af (kA (ReachAt F lt H S ts) ?_ (ts.length + 9 * 7) _ _ ⟨none, [], ts, by rw [l1]; rfl, e1, x0, by rw [← l1]; exact aj, by simp only [List.length_nil]; omega, rfl, .start⟩)
 intro n lc H' q
 obtain ⟨w, us, ws, rfl, e, x, hw, hle, rfl, rs⟩ := q
 refine aR (ak (ad rfl (aF (ae ⟨Nat.zero_le _, ?_⟩))))
 have e' : Ext H (H' ++ [MObj.list []]) := e.trans .app
 refine ok_eqL (neg := true) (ks := ws.map Tk.key) (js := []) (Ext.app.get hw) aj (mx ws) rfl ⟨_, rfl, ?_⟩
 rcases List.eq_nil_or_concat ws with rfl | ⟨ws', t, rfl⟩
 ·rw [show (decide (List.map Tk.key [] = [])) = true from rfl]
  refine ⟨rfl, ?_⟩
  refine aK (bZ (aC (aa (ad rfl (ae (iw (x.ext .app) (.inl ⟨_, rfl, ?_⟩)))))))
  exact ⟨_, us, rfl, aj, x.2, rs.done, e'.trans .app, e'.1⟩
 ·rw [List.concat_eq_append] at *
  have hd : decide (List.map Tk.key (ws' ++ [t]) = []) = false := decide_eq_false fun q => by simp at q
  rw [hd]
  have hww : (H' ++ [MObj.list []])[H.length + 1]? = some (.list ((ws' ++ [t]).map Tk.v)) := Ext.app.get hw
  have lww : (ws' ++ [t]).length ≤ 1056 := by have := d9 x.2; omega
  refine af (aO (bn (ad rfl (gH hww (ae (ok_pop (v := t.v) hww (by simp) (by rw [List.length_map]; exact Nat.le_trans lww (by decide)) ⟨rfl, ?_⟩))))))
  have hdl : ((ws' ++ [t]).map Tk.v).dropLast = ws'.map Tk.v := by simp
  rw [hdl]
  have e2 : Ext H ((H' ++ [MObj.list []]).set (H.length + 1) (.list (ws'.map Tk.v))) := e'.set (Nat.le_succ _)
  have x2 : TokD ((H' ++ [MObj.list []]).set (H.length + 1) (.list (ws'.map Tk.v))) H.length us := ⟨IsD.gro (W := fun i => i = H.length + 1) (x.ext .app).1 (.set rfl) (Nat.ne_of_lt (Nat.lt_succ_self _)), x.2⟩
  have hw2 : ((H' ++ [MObj.list []]).set (H.length + 1) (.list (ws'.map Tk.v)))[H.length + 1]? = some (.list (ws'.map Tk.v)) := cD hww
  generalize hH2 : (H' ++ [MObj.list []]).set (H.length + 1) (.list (ws'.map Tk.v)) = H2 at e2 x2 hw2 ⊢
  refine af (aD (aR (ak (ad rfl (ad rfl (ok_inTok (neg := true) x2 fun b hb => ⟨_, rfl, ?_⟩))))))
  have lw : ws'.length + 1 = (ws' ++ [t]).length := by simp
  cases b with
  | true =>
   exact ag ⟨rfl, ag ⟨.inl rfl, _, by rw [← lw]; exact Nat.add_lt_add_right (Nat.lt_succ_self _) _, some t.v, us, ws', rfl, e2, x2, hw2, Nat.le_of_succ_le (Nat.le_trans (Nat.le_of_eq lw) hle), rfl, rs.old (hb.mp rfl)⟩⟩
  | false =>
   have hnt : t ∉ us := fun q => absurd (hb.mpr q) (by decide)
   refine af (bi (ok_C (ad rfl (ad rfl (jr x2 fun us' es x3 hu => ⟨rfl, ?_⟩)))))
   have e3 : Ext H (putD H2 H.length es) := e2.put (Nat.le_refl _)
   have hw3 : (putD H2 H.length es)[H.length + 1]? = some (.list (ws'.map Tk.v)) := by unfold putD; rw [List.getElem?_set_ne (Nat.ne_of_lt (Nat.lt_succ_self _))]; exact hw2
   generalize hH3 : putD H2 H.length es = H3 at e3 x3 hw3 ⊢
   have R3 := R.ext e3
   refine af <| aq <| bn <| ad rfl <| gH hw3 <| aa <| R3.call rfl (fun ξ => rfl) <| aa <| aF <| aa <| ad rfl <| ae ⟨lim1, ae <| (q5 (R3.ext .app) (t := t) aj).mono fun v H4 q => ?_⟩
   obtain ⟨l, ls, rfl, hl, nd, q1, q2, e4, hll⟩ := q
   have e34 : Ext H3 H4 := Ext.trans .app e4
   have hw4 := e34.get hw3
   have lls := d9 nd
   have lus := d9 x.2
   refine ae (lY hw4 hl (by simp only [List.length_map]; exact Nat.le_trans (show ws'.length + ls.length ≤ 2000 by omega) (by decide)) ⟨rfl, ag ⟨rfl, ag ⟨.inl rfl, ?_⟩⟩⟩)
   have lu := len_new x.2 x3.2 hnt hu
   have lus' := d9 x3.2
   exact ⟨ws'.length + ls.length + 9 * (7 - us'.length), qW lw lls lu lus', some t.v, us', ws' ++ ls, rfl, (e3.trans e34).set (Nat.le_succ _), ⟨IsD.gro (W := fun i => i = H.length + 1) (x3.ext e34).1 (.set rfl) (Nat.ne_of_lt (Nat.lt_succ_self _)), x3.2⟩, by rw [cD hw4]; simp, by rw [List.length_append]; exact qV (Nat.le_trans (Nat.le_of_eq lw) hle) lls lu, List.length_append ▸ rfl, rs.new hu q1 q2⟩
end
section
variable {F : Fix} {H H' H'' : MH} {A A' A'' : At} {S S' : St} {P : V → MH → Prop} {T : Fl × Loc → MH → Prop} {loc : Loc}
theorem Flow.each {α β : Type} {xs : List α} {val : α → V} {C : α → St → Prop} {mk : β → Loc} {b : TM} {g : SM} {ok : MH → Prop} (R : Flow F H A S) (hok : ∀ H' A', Fr F H A H' A' → ok H')
  (body : ∀ x ∈ xs, ∀ y H' A' S', Flow F H' A' S' → Fr F H A H' A' → ∃ l₁, b (val x) (mk y) = some l₁ ∧ Ok (g l₁) H' (kfx mk (Go F (C x) H' A' S'))) (y : β)
  (h : ∀ y' H', Go F (fun τ => ∀ x ∈ xs, C x τ) H A S H' → T (.next, mk y') H') : Ok (bt ok b g (xs.map val) (mk y)) H T :=
 cj (fun ds => Go F (fun τ => ∀ x ∈ ds, C x τ) H A S) (fun ds H' q => by obtain ⟨A', S', R', fr, ξ⟩ := q; exact hok _ _ fr) (fun ds x rs y H' e q => by
  obtain ⟨A', S', R', fr, dg⟩ := q
  obtain ⟨l₁, e, q⟩ := body x (by rw [e]; simp) y H' A' S' R' fr
  refine ⟨l₁, e, q.mono fun r H'' q => ⟨q.1, q.2.1, ?_⟩⟩
  obtain ⟨ξ, ξ, A'', S'', R'', fr', dg'⟩ := q
  refine ⟨A'', S'', R'', fr.trans fr', dg.trans dg' (fun τ ξ hh => ⟨fun z hz => hh z (List.mem_append.mpr (.inl hz)), hh x (List.mem_append.mpr (.inr (.head _)))⟩) fun c d z hz => ?_⟩
  rcases List.mem_append.mp hz with hz | hz
  ·exact c z hz
  ·rw [List.mem_singleton.mp hz]; exact d) y ⟨A, S, R, .refl, .refl fun x h => by cases h⟩ h
theorem Flow.eachA {α β : Type} {xs : List α} {val : α → V} {C : α → St → Prop} {mk : β → Loc} {b : TM} {g : SM} {ok : MH → Prop} (R : Flow F H A S) (hok : ∀ H', Fr F H A H' A → ok H')
  (body : ∀ x ∈ xs, ∀ y H' S', Flow F H' A S' → Fr F H A H' A → ∃ l₁, b (val x) (mk y) = some l₁ ∧ Ok (g l₁) H' (kfx mk (GoA F (C x) H' A S'))) (y : β)
  (h : ∀ y' H', GoA F (fun τ => ∀ x ∈ xs, C x τ) H A S H' → T (.next, mk y') H') : Ok (bt ok b g (xs.map val) (mk y)) H T :=
 cj (fun ds => GoA F (fun τ => ∀ x ∈ ds, C x τ) H A S) (fun ds H' q => by obtain ⟨S', R', fr, ξ⟩ := q; exact hok _ fr) (fun ds x rs y H' e q => by
  obtain ⟨S', R', fr, dg⟩ := q
  obtain ⟨l₁, e, q⟩ := body x (by rw [e]; simp) y H' S' R' fr
  refine ⟨l₁, e, q.mono fun r H'' q => ⟨q.1, q.2.1, ?_⟩⟩
  obtain ⟨ξ, ξ, S'', R'', fr', dg'⟩ := q
  refine ⟨S'', R'', fr.trans fr', dg.trans dg' (fun τ ξ hh => ⟨fun z hz => hh z (List.mem_append.mpr (.inl hz)), hh x (List.mem_append.mpr (.inr (.head _)))⟩) fun c d z hz => ?_⟩
  rcases List.mem_append.mp hz with hz | hz
  ·exact c z hz
  ·rw [List.mem_singleton.mp hz]; exact d) y ⟨S, R, .refl, .refl fun x h => by cases h⟩ h
theorem Go.start {C : St → Prop} {H₀ : MH} (x : Ext H₀ H) (g : Go F C H A S H') : Go F C H₀ A S H' := by obtain ⟨A', S', a, b, c⟩ := g; exact ⟨A', S', a, x.fr.trans b, c⟩
theorem Go.fin {C : St → Prop} (g : Go F C H A S H') (x : Ext H' H'') : Go F C H A S H'' := by obtain ⟨A', S', a, b, c⟩ := g; exact ⟨A', S', a.ext x, b.trans x.fr, c⟩
theorem Go.skip (R : Flow F H A S) {C : St → Prop} (h : C S) : Go F C H A S H := ⟨A, S, R, .refl, .refl h⟩
theorem hG (R : Flow F H A S) {ts : List Tk} {lt : Nat} (ht : H[lt]? = some (.list (ts.map Tk.v))) (hlen : ts.length ≤ 1000) : Ok (aA [.ref F.fl, .ref lt]) H fun ξ H' => Go F (fun τ => Lk τ (· ∈ ts)) H A S H' := by
 refine a9 rfl <| af <| b5 <| bK <| R.call rfl (fun ξ => rfl) <| aa <| ad rfl <| ae <| (iu R ht hlen).mono fun v H₁ q => ?_
 obtain ⟨l, us, rfl, hl, nd, hu, e, hll⟩ := q
 have R₁ := R.ext e
 refine bh hl ?_
 refine R₁.each (α := Tk) (β := Option V) (C := fun t τ => out1 τ t) (mk := fun w => [some (.ref F.fl), some (.ref lt), w]) (fun H' A' fr => fr.list R₁ hl) (fun t ht y H' A' S' R' fr => ⟨[some (.ref F.fl), some (.ref lt), some t.v], rfl, ?_⟩) none fun y' H' g => ⟨rfl, ag (.inr ⟨rfl, ?_⟩)⟩
 ·cases t with
  | site s =>
   refine af <| aD <| du (t := .site s) <| ad rfl ⟨rfl, ?_⟩
   refine af <| aq <| R'.call rfl (fun ξ => rfl) <| aa <| R'.at_gone rfl <| aa <| ak <| ad rfl <| ok_C <| dl <| ae <| (jW R' (f := .gone s) trivial rfl rfl).mono fun ξ H'' g => ⟨rfl, ag ⟨rfl, ag ⟨.inl rfl, ⟨_, rfl⟩, g.go⟩⟩⟩
  | out o =>
   refine af <| aD <| du (t := .out o) <| ad rfl ⟨rfl, ?_⟩
   refine af <| aD <| fS (t := .out o) <| ad rfl ⟨rfl, ?_⟩
   refine af <| aq <| R'.call rfl (fun ξ => rfl) <| aa <| R'.at_leaks rfl <| aa <| ak <| ad rfl <| ok_C <| gi <| ae <| (jW R' (f := .leak o) trivial rfl rfl).mono fun ξ H'' g => ⟨rfl, ag ⟨rfl, ag ⟨rfl, ag ⟨.inl rfl, ⟨_, rfl⟩, g.go⟩⟩⟩⟩
  | beyond =>
   refine af <| aD <| du (t := .beyond) <| ad rfl ⟨rfl, ?_⟩
   refine af <| aD <| fS (t := .beyond) <| ad rfl ⟨rfl, ?_⟩
   exact ag ⟨rfl, ag ⟨rfl, ag ⟨.inl rfl, ⟨_, rfl⟩, .skip R' trivial⟩⟩⟩
 ·exact (g.start e).conv (fun τ hs h t ht => h t (((hu t).mp ht).mono hs fun ξ h => h)) fun h t r => h t ((hu t).mpr r)
theorem ok_inn {i : Nat} {t : Tk} (hl : loc[i]? = some (some t.v)) (h : P (.int (ii t.inn)) H) : Ok (eIf (bV (e2 mEq (e2 ah (eLoc i) (eC (.int 0))) (eC (.str "outer")))) (e2 ah (eLoc i) (eC (.int 1))) (eC (.int (-1))) loc) H P := by
 refine bM <| fS (t := t) <| ad hl ⟨rfl, ?_⟩
 cases t with
 | out o => exact ak <| ad hl <| ok_C <| gi h
 | site s => exact ok_C h
 | beyond => exact ok_C h
theorem q0 (R : Flow F H A S) {o : Bool} {ts : List Tk} {lt : Nat} (ht : H[lt]? = some (.list (ts.map Tk.v))) (hlen : ts.length ≤ 1000) : Ok (cI [.ref F.fl, .int (oi o), .ref lt]) H fun ξ H' => Go F (fun τ => PO τ o (· ∈ ts)) H A S H' := by
 refine a9 rfl <| af <| b5 <| bK <| R.call rfl (fun ξ => rfl) <| aa <| ad rfl <| ae <| (iu R ht hlen).mono fun v H₁ q => ?_
 obtain ⟨l, us, rfl, hl, nd, hu, e, hll⟩ := q
 have R₁ := R.ext e
 refine bh hl ?_
 refine R₁.each (α := Tk) (β := Option V) (C := fun t τ => τ (.kept t.inn o) ∧ (isSite t → Lk τ fun u => u = t)) (mk := fun w => [some (.ref F.fl), some (.int (oi o)), some (.ref lt), w, none]) (fun H' A' fr => fr.list R₁ hl) (fun t ht y H' A' S' R' fr => ⟨[some (.ref F.fl), some (.int (oi o)), some (.ref lt), some t.v, none], rfl, ?_⟩) none fun y' H' g => ⟨rfl, ag (.inr ⟨rfl, ?_⟩)⟩
 ·-- the note of a row
  have note : ∀ (H₂ : MH) (A₂ : At) (S₂ : St) (T : Fl × Loc → MH → Prop), Flow F H₂ A₂ S₂ → (∀ H₃, Go F (fun τ => τ (.kept t.inn o)) H₂ A₂ S₂ H₃ → T (.next, [some (.ref F.fl), some (.int (oi o)), some (.ref lt), some t.v, none]) H₃) → Ok (ai (aL (aw (au 204 "note") ar (eLoc 0) (ac (e1 (aG 54 "kept") (e1 (aG 204 "summary") (eLoc 0))) (ac (av (ac (eIf (bV (e2 mEq (e2 ah (eLoc 3) (eC (.int 0))) (eC (.str "outer")))) (e2 ah (eLoc 3) (eC (.int 1))) (eC (.int (-1)))) (ac (eLoc 1) (lNil)))) (lNil))))) sNil [some (.ref F.fl), some (.int (oi o)), some (.ref lt), some t.v, none]) H₂ T :=
   fun H₂ A₂ S₂ T R₂ k => af <| aq <| R₂.call rfl (fun ξ => rfl) <| aa <| R₂.at_kept rfl <| aa <| aB <| aa <| ok_inn (t := t) rfl <| aa <| ad rfl <| ae ⟨lim2, ae <| (jW R₂ (f := .kept t.inn o) trivial rfl rfl).mono fun ξ H₃ g => ⟨rfl, ag (k H₃ g.go)⟩⟩
  cases t with
  | site s =>
   refine af <| aD <| du (t := .site s) <| ad rfl ⟨rfl, ?_⟩
   refine af <| aq <| R'.call rfl (fun ξ => rfl) <| aa <| aF <| aa <| ad rfl <| ae ⟨lim1, ae <| (hG (R'.ext .app) (ts := [.site s]) aj (show 1 ≤ 1000 by decide)).mono fun ξ H₂ g => ?_⟩
   refine ⟨rfl, ag ⟨rfl, ?_⟩⟩
   obtain ⟨A₂, S₂, R₂, fr₂, d₂⟩ := Go.start .app g
   refine note H₂ A₂ S₂ _ R₂ fun H₃ g₃ => ⟨.inl rfl, ⟨_, rfl⟩, ?_⟩
   obtain ⟨A₃, S₃, R₃, fr₃, d₃⟩ := g₃
   exact ⟨A₃, S₃, R₃, fr₂.trans fr₃, d₂.trans d₃ (fun τ ξ h => ⟨(h.2 trivial).mono fun ξ h => List.mem_singleton.mp h, h.1⟩) fun c d => ⟨d, fun ξ => c.mono fun ξ h => List.mem_singleton.mpr h⟩⟩
  | out o' =>
   refine af <| aD <| du (t := .out o') <| ad rfl ⟨rfl, ag ⟨rfl, ?_⟩⟩
   exact note H' A' S' _ R' fun H₃ g₃ => ⟨.inl rfl, ⟨_, rfl⟩, g₃.conv (fun τ ξ h => h.1) fun h => ⟨h, fun h => h.elim⟩⟩
  | beyond =>
   refine af <| aD <| du (t := .beyond) <| ad rfl ⟨rfl, ag ⟨rfl, ?_⟩⟩
   exact note H' A' S' _ R' fun H₃ g₃ => ⟨.inl rfl, ⟨_, rfl⟩, g₃.conv (fun τ ξ h => h.1) fun h => ⟨h, fun h => h.elim⟩⟩
 ·exact (g.start e).conv (fun τ hs h t ht => h t (((hu t).mp ht).mono hs fun ξ h => h)) fun h t r => h t ((hu t).mpr r)
open Classical in
noncomputable def At.add (A : At) (p : Bool) (c : Cont) (e : Nat) : At := ⟨fun q => if q = p then A.cs p ++ [c] else A.cs q, fun x => if x = c then e else A.at_ x⟩
theorem At.add_loc {A : At} {p : Bool} {c c' : Cont} {e : Nat} (h : c' ≠ c) : (A.add p c e).loc F c' = A.loc F c' := by
 cases c' <;> simp only [At.loc, At.add, if_neg h]
theorem At.add_new {A : At} {p : Bool} {c : Cont} {e : Nat} (h : c.tab = some p) : (A.add p c e).loc F c = e := by
 cases c <;> simp only [Cont.tab, reduceCtorEq] at h <;> simp only [At.loc, At.add, if_true]
theorem At.add_has {A : At} {p : Bool} {c c' : Cont} {e : Nat} (hc : c.tab = some p) : (A.add p c e).has c' ↔ A.has c' ∨ c' = c := by
 unfold At.has
 cases h : c'.tab with
 | none =>
  simp only [true_or]
 | some q =>
  simp only [At.add]
  by_cases hq : q = p
  ·subst hq
   simp
  ·simp only [hq, if_false]
   constructor
   ·exact .inl
   ·rintro (h' | rfl)
    ·exact h'
    ·rw [h] at hc; cases hc; exact absurd rfl hq
theorem tab_le {l : List Cont} {p : Bool} (nd : l.Nodup) (ht : ∀ c ∈ l, c.tab = some p) : l.length ≤ lim := by
 have := cr (m := (((List.finRange 8).map Cont.held) ++ ([.a, .b, .c, .d] : List Site).map Cont.ins)) nd fun c hc => by
  have := ht c hc
  cases c with
  | held r => exact List.mem_append_left _ (List.mem_map_of_mem (List.mem_finRange r))
  | ins s => exact List.mem_append_right _ (List.mem_map_of_mem (eA s))
  | gone => cases this
  | leaks => cases this
  | kept => cases this
 exact Nat.le_trans this (by decide)
theorem Flow.setDef (R : Flow F H A S) (x : Ext H H') {c : Cont} {p : Bool} (hc : c.tab = some p) {kv : V} (hk : kv.prim? = some c.nm) {e : Nat} (he : IsD H' e []) (hle : H.length ≤ e)
  (h : ∀ H'' A', Flow F H'' A' S → Fr F H A H'' A' → A'.has c → P (.ref (A'.loc F c)) H'') : Ok (d8 [.ref (F.tab p), kv, .ref e]) H' P := by
 obtain ⟨t, nd, ht⟩ := R.tab p
 have hlen := tab_le nd ht
 refine jt (x.isD t) hk (oM _) (by rw [List.length_map]; exact hlen) (fun v hv => ?_) fun hv => ?_
 ·rcases fk (g := fun c => V.ref (A.loc F c)) ht hc with ⟨a, b⟩ | ⟨a, b⟩
  ·rw [a] at hv
   cases hv
   exact h H' A (R.ext x) x.fr (by unfold At.has; rw [hc]; exact b)
  ·rw [a] at hv; cases hv
 ·rcases fk (g := fun c => V.ref (A.loc F c)) ht hc with ⟨a, b⟩ | ⟨a, b⟩
  ·rw [a] at hv; cases hv
  ·have nh : ¬ A.has c := by unfold At.has; rw [hc]; exact b
   have ne1 : ∀ c', A.has c' → c' ≠ c := fun c' h q => nh (by rw [← q]; exact h)
   have ne2 : ∀ c', c' ∈ A.cs p → c' ≠ c := fun c' h q => b (by rw [← q]; exact h)
   have own_e : ∀ i, Own F A i → i ≠ e := fun i o q => by have := R.own_lt o; omega
   have tp : ∀ q, Own F A (F.tab q) := fun q => .inr (.inl ⟨q, rfl⟩)
   have cp : ∀ c', A.has c' → Own F A (A.loc F c') := fun c' h => .inr (.inr ⟨c', h, rfl⟩)
   have hp : dput ((A.cs p).map fun c => (Key.p c.nm, V.ref (A.loc F c))) (.p c.nm) (.ref e) = ((A.add p c e).cs p).map fun c' => (Key.p c'.nm, V.ref ((A.add p c e).loc F c')) := by
    have hany : (((A.cs p).map fun c => (Key.p c.nm, V.ref (A.loc F c))).any fun x => decide (x.1 = Key.p c.nm)) = false := by
     rw [List.any_eq_false]
     intro y hy
     obtain ⟨c', hc', rfl⟩ := List.mem_map.mp hy
     simp only [Key.p.injEq, decide_eq_true_eq]
     intro q
     exact ne2 c' hc' (Cont.nm_inj (ht c' hc') hc q)
    unfold dput
    rw [hany]
    have e1 : (A.add p c e).cs p = A.cs p ++ [c] := by simp [At.add]
    rw [e1]
    simp only [Bool.false_eq_true, if_false, List.map_append, List.map_cons, List.map_nil, At.add_new hc]
    congr 1
    exact List.map_congr_left fun c' hc' => by rw [At.add_loc (ne2 c' hc')]
   rw [hp]
   have tl : F.tab p < H.length := R.own_lt (tp p)
   have keep : ∀ i m, H[i]? = some m → i ≠ F.tab p → (putD H' (F.tab p) (((A.add p c e).cs p).map fun c' => (Key.p c'.nm, V.ref ((A.add p c e).loc F c'))))[i]? = some m := fun i m hi ne => by
    unfold putD
    rw [List.getElem?_set_ne (fun q => ne q.symm)]
    exact x.get hi
   have isd : ∀ i es, IsD H i es → i ≠ F.tab p → IsD (putD H' (F.tab p) (((A.add p c e).cs p).map fun c' => (Key.p c'.nm, V.ref ((A.add p c e).loc F c')))) i es := fun i es ⟨n, hi⟩ ne => ⟨n, keep i _ hi ne⟩
   have neD : ∀ i m, H[i]? = some m → (∀ es n, m ≠ .dict es n) → i ≠ F.tab p := fun i m hi hm q => by
    obtain ⟨n, e'⟩ := t
    rw [q, e'] at hi
    cases hi
    exact hm _ _ rfl
   obtain ⟨bb, hd⟩ := R.d
   have hasc := fun c' => At.add_has (A := A) (c' := c') (e := e) hc
   suffices key : P (.ref ((A.add p c e).loc F c)) (putD H' (F.tab p) (((A.add p c e).cs p).map fun c' => (Key.p c'.nm, V.ref ((A.add p c e).loc F c')))) by rw [At.add_new hc] at key; exact key
   refine h _ (A.add p c e) {
    fl := keep _ _ R.fl (neD _ _ R.fl fun ξ ξ q => by cases q)
    d := ⟨bb, keep _ _ hd (neD _ _ hd fun ξ ξ q => by cases q)⟩
    su := keep _ _ R.su (neD _ _ R.su fun ξ ξ q => by cases q)
    sd := keep _ _ R.sd (neD _ _ R.sd fun ξ ξ q => by cases q)
    tabs := R.tabs
    nsd := R.nsd
    tab := fun q => ?_
    set := fun c' hc' => ?_
    dom := fun f hf => (hasc _).mpr (.inl (R.dom f hf))
    inj := fun c₁ c₂ h₁ h₂ heq => ?_
    sep := fun c' h' q => ?_ } ⟨Nat.le_trans x.1 (by unfold putD; simp), fun i hi n => ⟨?_, ?_⟩⟩ ((hasc _).mpr (.inr rfl))
   ·by_cases hq : q = p
    ·subst hq
     refine ⟨gf (x.isD t), ?_, fun c' h' => ?_⟩
     ·have e1 : (A.add q c e).cs q = A.cs q ++ [c] := by simp [At.add]
      rw [e1]
      exact List.nodup_append.mpr ⟨nd, by simp, fun a ha b' hb e => ne2 a ha (by rw [← List.mem_singleton.mp hb]; exact e)⟩
     ·have e1 : (A.add q c e).cs q = A.cs q ++ [c] := by simp [At.add]
      rw [e1] at h'
      rcases List.mem_append.mp h' with h' | h'
      ·exact ht c' h'
      ·rw [List.mem_singleton.mp h']; exact hc
    ·have e1 : (A.add p c e).cs q = A.cs q := by simp [At.add, hq]
     rw [e1]
     obtain ⟨t', nd', ht'⟩ := R.tab q
     refine ⟨?_, nd', ht'⟩
     have ne : F.tab q ≠ F.tab p := by
      cases p <;> cases q <;> first | exact absurd rfl hq | exact R.tabs | exact R.tabs.symm
     have em : ((A.cs q).map fun c => (Key.p c.nm, V.ref (A.loc F c))) = (A.cs q).map fun c' => (Key.p c'.nm, V.ref ((A.add p c e).loc F c')) := List.map_congr_left fun c' hc' => by
      rw [At.add_loc (c := c) (c' := c') fun q' => by have := ht' c' hc'; rw [q', hc] at this; cases this; exact hq rfl]
     rw [← em]
     exact isd _ _ t' ne
   ·by_cases hq : c' = c
    ·subst hq
     refine ⟨[], ?_, .nil, fun f => ⟨fun q => (by cases q), fun q => ?_⟩⟩
     ·rw [At.add_new hc]
      exact IsD.gro (W := fun i => i = F.tab p) he (.set rfl) (fun q => own_e _ (tp p) q.symm)
     ·have := R.dom f q.1
      rw [q.2] at this
      exact absurd this nh
    ·have h' := ((hasc c').mp hc').resolve_right hq
     obtain ⟨fs, y, z, w⟩ := R.set c' h'
     rw [At.add_loc hq]
     exact ⟨fs, isd _ _ y (R.sep c' h' p), z, w⟩
   ·rcases (hasc c₁).mp h₁ with g₁ | g₁ <;> rcases (hasc c₂).mp h₂ with g₂ | g₂
    ·rw [At.add_loc (ne1 _ g₁), At.add_loc (ne1 _ g₂)] at heq
     exact R.inj _ _ g₁ g₂ heq
    ·rw [At.add_loc (ne1 _ g₁), g₂, At.add_new hc] at heq
     exact absurd heq (own_e _ (cp _ g₁))
    ·rw [g₁, At.add_new hc, At.add_loc (ne1 _ g₂)] at heq
     exact absurd heq.symm (own_e _ (cp _ g₂))
    ·rw [g₁, g₂]
   ·rcases (hasc c').mp h' with h' | rfl
    ·rw [At.add_loc (ne1 _ h')]
     exact R.sep c' h' q
    ·rw [At.add_new hc]
     exact fun q' => own_e _ (tp q) q'.symm
   ·have ne : i ≠ F.tab p := fun q => n (q ▸ tp p)
    unfold putD
    rw [List.getElem?_set_ne (fun q => ne q.symm)]
    exact x.2 i hi
   ·rintro (o | ⟨q, o⟩ | ⟨c', h', o⟩)
    ·exact n (.inl o)
    ·exact n (.inr (.inl ⟨q, o⟩))
    ·rcases (hasc c').mp h' with h' | rfl
     ·rw [At.add_loc (ne1 _ h')] at o
      exact n (.inr (.inr ⟨c', h', o⟩))
     ·rw [At.add_new hc] at o
      omega
end
section
variable {F : Fix} {H H' H'' : MH} {A A' A'' : At} {S S' : St} {P : V → MH → Prop} {T : Fl × Loc → MH → Prop} {loc : Loc}
theorem Flow.noteAll (R : Flow F H A S) {c : Cont} {p : Bool} (hc : c.tab = some p) (hh : A.has c) {β : Type} {mk : β → Loc} {i j lt : Nat} {ts : List Tk} (ht : H[lt]? = some (.list (ts.map Tk.v)))
  (m0 : ∀ y, (mk y)[0]? = some (some (.ref F.fl))) (mi : ∀ y, (mk y)[i]? = some (some (.ref (A.loc F c)))) (ms : ∀ (t : Tk) y, ∃ y', (mk y).set j (some t.v) = mk y') (mj : ∀ (t : Tk) y, ((mk y).set j (some t.v))[j]? = some (some t.v)) (y : β)
  (h : ∀ y' H', GoA F (fun τ => ∀ t ∈ ts, τ (c.of t)) H A S H' → T (.next, mk y') H') :
  Ok (bt (fun h => h[lt]? = some (.list (ts.map Tk.v))) (aT j) (ai (aL (aw (au 204 "note") ar (eLoc 0) (ac (eLoc i) (ac (eLoc j) (lNil))))) sNil) (ts.map Tk.v) (mk y)) H T := by
 refine R.eachA (α := Tk) (C := fun t τ => τ (c.of t)) (fun H' fr => fr.list R ht) (fun t ξ y H' S' R' fr => ⟨_, rfl, ?_⟩) y h
 obtain ⟨y', e⟩ := ms t y
 have hj := mj t y
 rw [e] at hj ⊢
 exact af <| aq <| R'.call (m0 y') (fun ξ => rfl) <| aa <| ad (mi y') <| aa <| ad hj <| ae <| (jW R' (f := c.of t) (by rw [Cont.of_cont hc]; exact hh) (by rw [Cont.of_key hc, Tk.of_key]) (by rw [Cont.of_cont hc])).mono fun ξ H'' g => ⟨rfl, ag ⟨.inl rfl, ⟨y', rfl⟩, g⟩⟩
theorem mW (R : Flow F H A S) {r : Fin 8} {ts : List Tk} {lt : Nat} (ht : H[lt]? = some (.list (ts.map Tk.v))) : Ok (aX [.ref F.fl, .int ((r.val : Nat) : Int), .ref lt]) H fun ξ H' => Go F (fun τ => ∀ t ∈ ts, τ (.held r t)) H A S H' := by
 refine a9 rfl <| af <| aD <| aR <| ak <| ad rfl <| ok_C <| kM (t := false) rfl ⟨_, rfl, ?_⟩
 refine af <| aO <| bn <| R.at_held rfl <| b8 (R.tab false).1 <| aa <| ad rfl <| aa <| cq <| ae <| R.setDef (p := false) (c := .held r) .app rfl rfl ⟨0, aj⟩ (Nat.le_refl _) fun H₁ A₁ R₁ fr hh => ⟨rfl, ?_⟩
 have ht₁ := fr.list R ht
 refine af <| aS <| ad rfl ⟨rfl, ht₁, R₁.noteAll (c := .held r) (p := false) rfl hh (β := Option V) (mk := fun w => [some (.ref F.fl), some (.int ((r.val : Nat) : Int)), some (.ref lt), some (.ref (A₁.loc F (.held r))), w]) ht₁ (fun ξ => rfl) (fun ξ => rfl) (fun t ξ => ⟨some t.v, rfl⟩) (fun ξ ξ => rfl) none fun y H' g => ⟨rfl, ag ⟨rfl, ag (.inr ⟨rfl, ?_⟩)⟩⟩⟩
 obtain ⟨S', R', fr', d⟩ := g
 exact ⟨A₁, S', R', fr.trans fr', d⟩
theorem ok_put (R : Flow F H A S) {tg ts : List Tk} {lg lt : Nat} (hg : H[lg]? = some (.list (tg.map Tk.v))) (ht : H[lt]? = some (.list (ts.map Tk.v))) (hlen : ts.length ≤ 1000) : Ok (bj [.ref F.fl, .ref lg, .ref lt]) H fun ξ H' => Go F (fun τ => ∀ g ∈ tg, Pt τ (· ∈ ts) g) H A S H' := by
 refine a9 rfl <| af <| aS <| ad rfl ⟨rfl, hg, ?_⟩
 refine R.each (α := Tk) (β := Option V × Option V × Option V) (C := fun g τ => Pt τ (· ∈ ts) g) (mk := fun y => [some (.ref F.fl), some (.ref lg), some (.ref lt), y.1, y.2.1, y.2.2, none]) (fun H' A' fr => fr.list R hg) (fun g ξ y H₁ A₁ S₁ R₁ fr₁ => ⟨[some (.ref F.fl), some (.ref lg), some (.ref lt), some g.v, y.2.1, y.2.2, none], rfl, ?_⟩) (none, none, none) fun y' H' g => ⟨rfl, ag (.inr ⟨rfl, g⟩)⟩
 have ht₁ := fr₁.list R ht
 refine af <| aD <| aR <| ak <| ad rfl <| ok_C <| pt (u := .beyond) ⟨_, rfl, ?_⟩
 cases g with
 | beyond =>
  rw [decide_eq_true rfl]
  exact af <| aq <| R₁.call rfl (fun ξ => rfl) <| aa <| ad rfl <| ae <| (hG R₁ ht₁ hlen).mono fun ξ H₂ g => ⟨rfl, ag ⟨rfl, ag ⟨.inl rfl, ⟨(some Tk.beyond.v, y.2.1, y.2.2), rfl⟩, g⟩⟩⟩
 | out o =>
  rw [show decide ((Tk.out o).key = Tk.beyond.key) = false from decide_eq_false (fun q => by cases Tk.key_inj q)]
  refine af <| aD <| fS (t := .out o) <| ad rfl ⟨rfl, ?_⟩
  exact af <| aq <| R₁.call rfl (fun ξ => rfl) <| aa <| ak <| ad rfl <| ok_C <| gi <| aa <| ad rfl <| ae <| (q0 R₁ ht₁ hlen).mono fun ξ H₂ g => ⟨rfl, ag ⟨rfl, ag ⟨rfl, ag ⟨.inl rfl, ⟨(some (Tk.out o).v, y.2.1, y.2.2), rfl⟩, g⟩⟩⟩⟩
 | site s =>
  rw [show decide ((Tk.site s).key = Tk.beyond.key) = false from decide_eq_false (fun q => by cases Tk.key_inj q)]
  refine af <| aD <| fS (t := .site s) <| ad rfl ⟨rfl, ?_⟩
  refine af <| aO <| bn <| R₁.at_inside rfl <| b8 (R₁.tab true).1 <| aa <| ak <| ad rfl <| ok_C <| dl <| aa <| cq <| ae <| R₁.setDef (p := true) (c := .ins s) .app rfl rfl ⟨0, aj⟩ (Nat.le_refl _) fun H₂ A₂ R₂ fr₂ hh => ⟨rfl, ?_⟩
  have ht₂ := fr₂.list R₁ ht₁
  refine af <| aS <| ad rfl ⟨rfl, ht₂, R₂.noteAll (c := .ins s) (p := true) rfl hh (β := Option V) (mk := fun w => [some (.ref F.fl), some (.ref lg), some (.ref lt), some (Tk.site s).v, some (.ref (A₂.loc F (.ins s))), w, none]) ht₂ (fun ξ => rfl) (fun ξ => rfl) (fun t ξ => ⟨some t.v, rfl⟩) (fun ξ ξ => rfl) y.2.2 fun w H₃ g => ⟨rfl, ?_⟩⟩
  obtain ⟨S₃, R₃, fr₃, d₃⟩ := g
  have ht₃ := fr₃.list R₂ ht₂
  refine af <| aD <| aR <| ak <| ak <| ad rfl <| ok_C <| dl <| R₃.at_gone rfl <| R₃.inGone fun b hb => ⟨_, rfl, ?_⟩
  cases b with
  | true =>
   refine af <| aq <| R₃.call rfl (fun ξ => rfl) <| aa <| ad rfl <| ae <| (hG R₃ ht₃ hlen).mono fun ξ H₄ g => ⟨rfl, ag ⟨rfl, ag ⟨rfl, ag ⟨rfl, ag ⟨.inl rfl, ⟨(some (Tk.site s).v, some (.ref (A₂.loc F (.ins s))), w), rfl⟩, ?_⟩⟩⟩⟩⟩
   obtain ⟨A₄, S₄, R₄, fr₄, d₄⟩ := g
   refine ⟨A₄, S₄, R₄, fr₂.trans (fr₃.trans fr₄), ?_⟩
   have d₄' : Doing (fun τ => τ (.gone s) → Lk τ (· ∈ ts)) S₃ S₄ := d₄.conv (fun τ hs h => h (hs _ (hb.mp rfl))) fun h ξ => h
   exact d₃.and d₄'
  | false =>
   refine ag ⟨rfl, ag ⟨rfl, ag ⟨rfl, ag ⟨.inl rfl, ⟨(some (Tk.site s).v, some (.ref (A₂.loc F (.ins s))), w), rfl⟩, ?_⟩⟩⟩⟩
   have hng : ¬ S₃ (.gone s) := fun q => absurd (hb.mpr q) (by decide)
   exact ⟨A₂, S₃, R₃, fr₂.trans fr₃, d₃.trans (Doing.refl (C := fun τ => τ (.gone s) → Lk τ (· ∈ ts)) fun q => absurd q hng) (fun τ ξ h => h) fun c d => ⟨c, d⟩⟩
noncomputable def regV (r : Fin 8) : V := .tup [.str "reg", .int ((r.val : Nat) : Int)]
theorem qk : Key.ok (.p (.str "reg")) = true := by decide +kernel
theorem fy (R : Flow F H A S) {r : Fin 8} : Ok (az [.ref F.fl, regV r]) H (Got H fun t => S (.held r t)) := by
 refine a9 rfl <| af <| aD <| aR <| ak <| ad rfl <| ok_C <| kM (t := false) rfl ⟨_, rfl, ag ⟨rfl, ?_⟩⟩
 refine aK <| aD <| aR <| ak <| ak <| ad rfl <| ok_C <| bB (i := 0) (by decide) rfl <| ok_C <| bx qk qk ⟨_, rfl, ?_⟩
 rw [decide_eq_true rfl]
 have x : Ext H (H ++ [MObj.dict [] 0]) := .app
 refine aK <| bZ <| aC <| aa <| bn <| R.at_held rfl <| b8 (R.tab false).1 <| aa <| ak <| ad rfl <| ok_C <| bB (i := 1) (by decide) rfl <| aa <| cq <| ae <| (R.ext x).get (c := .held r) (p := false) rfl rfl ⟨0, aj⟩ fun l ts hx ξ hts => ae <| iw hx (.inl ⟨_, rfl, _, ts, rfl, aj, hx.2, hts, x.trans .app, x.1⟩)
inductive Gat (H : MH) (X : Tk → Prop) (v : V) (H' : MH) : Prop where
 | mk (l : Nat) (us : List Tk) (h0 : v = .ref l) (h1 : H'[l]? = some (.list (us.map Tk.v))) (h2 : us.length ≤ 100) (h3 : ∀ u, u ∈ us ↔ X u) (h4 : Ext H H') (h5 : H.length ≤ l) : Gat H X v H'
inductive TokAllAt (H : MH) (S : St) (ds : List (Fin 8)) (H' : MH) : Prop
 | mk (us : List Tk) (x : Ext H H') (hl : H'[H.length]? = some (.list (us.map Tk.v))) (hle : us.length ≤ 7 * ds.length) (hu : ∀ u, u ∈ us ↔ ∃ r ∈ ds, S (.held r u)) : TokAllAt H S ds H'
theorem mU (R : Flow F H A S) {rs : List (Fin 8)} {lr : Nat} (hr : H[lr]? = some (.list (rs.map regV))) (hlen : rs.length ≤ 10) : Ok (aH [.ref F.fl, .ref lr]) H (Gat H fun t => ∃ r ∈ rs, S (.held r t)) := by
 refine a9 rfl <| af <| aO <| aF <| ae ⟨Nat.zero_le _, rfl, ?_⟩
 have x₀ : Ext H (H ++ [MObj.list []]) := .app
 refine af <| aS <| ad rfl ⟨rfl, x₀.get hr, ?_⟩
 refine cj (mk := fun w => [some (.ref F.fl), some (.ref lr), some (.ref H.length), w]) (TokAllAt H S) (fun ds H' q => ?_) (fun ds r rs' y H' e q => ?_) none ⟨[], x₀, aj, Nat.zero_le _, fun u => by simp⟩ fun y H' q => ?_
 ·obtain ⟨us, x, ξ⟩ := q
  exact x.get hr
 ·obtain ⟨us, x, hl, hle, hu⟩ := q
  have R' := R.ext x
  refine ⟨_, rfl, af <| aq <| bn <| ad rfl <| gH hl <| aa <| R'.call rfl (fun ξ => rfl) <| aa <| ad rfl <| ae <| (fy R' (r := r)).mono fun v H₂ g => ?_⟩
  obtain ⟨l, ts, rfl, hl₂, nd, ht, x₂, hll⟩ := g
  have h7 := d9 nd
  rw [e] at hlen
  simp only [List.length_append, List.length_cons] at hlen
  have hl' := x₂.get hl
  refine ae <| lY hl' hl₂ (by simp only [List.length_map]; exact Nat.le_trans (show us.length + ts.length ≤ 1000 by omega) (by decide)) ⟨rfl, ag ⟨.inl rfl, ⟨_, rfl⟩, us ++ ts, (x.trans x₂).set (Nat.le_refl _), by rw [cD hl', List.map_append], by simp only [List.length_append, List.length_singleton]; omega, fun u => ?_⟩⟩
  rw [List.mem_append, hu, ht]
  constructor
  ·rintro (⟨r', h1, h2⟩ | h)
   ·exact ⟨r', List.mem_append.mpr (.inl h1), h2⟩
   ·exact ⟨r, List.mem_append.mpr (.inr (.head _)), h⟩
  ·rintro ⟨r', h1, h2⟩
   rcases List.mem_append.mp h1 with h1 | h1
   ·exact .inl ⟨r', h1, h2⟩
   ·rw [List.mem_singleton.mp h1] at h2; exact .inr h2
 ·obtain ⟨us, x, hl, hle, hu⟩ := q
  exact ⟨rfl, aK <| bZ <| ad rfl <| .inl ⟨_, rfl, _, us, rfl, hl, by omega, hu, x, Nat.le_refl _⟩⟩
end
theorem oe {k x : Key} : ∀ {l : List Key}, x ∈ insK k l ↔ x = k ∨ x ∈ l
 | [] => by show _ ∈ [_] ↔ _; simp
 | a :: r => by
  rw [fZ]
  split
  ·simp
  ·simp only [List.mem_cons, oe (l := r)]
   constructor
   ·rintro (h | h | h)
    ·exact .inr (.inl h)
    ·exact .inl h
    ·exact .inr (.inr h)
   ·rintro (h | h | h)
    ·exact .inr (.inl h)
    ·exact .inl h
    ·exact .inr (.inr h)
theorem mem_sortK {x : Key} : ∀ {l : List Key}, x ∈ bG l ↔ x ∈ l
 | [] => .rfl
 | a :: r => by
  rw [ga]
  rw [oe, mem_sortK (l := r), List.mem_cons]
theorem jf {α : Type} {f : α → Key} : ∀ {l : List Key}, (∀ k ∈ l, ∃ a, k = f a) → ∃ as : List α, l = as.map f
 | [], _ => ⟨[], rfl⟩
 | k :: r, h => by
  obtain ⟨a, ha⟩ := h k (by simp)
  obtain ⟨as, e⟩ := jf (l := r) fun x hx => h x (by simp [hx])
  exact ⟨a :: as, by rw [ha, e]; rfl⟩
theorem iK {α : Type} {f : α → Key} (inj : ∀ a b, f a = f b → a = b) (l : List α) : ∃ as : List α, bG (l.map f) = as.map f ∧ ∀ a, a ∈ as ↔ a ∈ l := by
 obtain ⟨as, e⟩ := jf (f := f) (l := bG (l.map f)) fun k hk => by
  obtain ⟨a, ξ, rfl⟩ := List.mem_map.mp (mem_sortK.mp hk)
  exact ⟨a, rfl⟩
 refine ⟨as, e, fun a => ?_⟩
 have h : f a ∈ as.map f ↔ f a ∈ l.map f := by rw [← e]; exact mem_sortK
 constructor
 ·intro ha
  obtain ⟨b, hb, q⟩ := List.mem_map.mp (h.mp (List.mem_map.mpr ⟨a, ha, rfl⟩))
  rw [← inj _ _ q]; exact hb
 ·intro ha
  obtain ⟨b, hb, q⟩ := List.mem_map.mp (h.mpr (List.mem_map.mpr ⟨a, ha, rfl⟩))
  rw [← inj _ _ q]; exact hb
theorem gj {H : MH} {P : V → MH → Prop} {l : Nat} {ks : List Key} (x : IsD H l (ks.map ent)) (ho : sOk ks = true) (h : P (.ref H.length) (H ++ [.list ((bG ks).map .ofKey)])) : Ok (aV [.ref l]) H P := by
 obtain ⟨n, e⟩ := x
 have e1 : ((ks.map ent).map (·.1)) = ks := by rw [List.map_map]; exact List.map_id ks
 refine ⟨_, _, ?_, h⟩
 unfold aV jA
 simp only [e, e1, ho, if_true]
theorem pi {H : MH} {P : V → MH → Prop} {l : Nat} {xs : List V} {ks : List Key} (e : H[l]? = some (.list xs)) (hk : bz xs = some ks) (ho : sOk ks = true) (h : P (.ref H.length) (H ++ [.list ((bG ks).map .ofKey)])) : Ok (aV [.ref l]) H P := by
 refine ⟨_, _, ?_, h⟩
 unfold aV jA
 simp only [e, hk, ho, if_true]
theorem mO {ks : List Key} (h1 : ks.length < 64) (h2 : ks.Nodup) (h3 : ∀ a ∈ ks, ∀ b ∈ ks, kcmp a b = true) : sOk ks = true := by
 unfold sOk
 simp only [Bool.and_eq_true, decide_eq_true_eq, List.all_eq_true]
 exact ⟨⟨h1, h2⟩, h3⟩
theorem dA {α β : Type} {f : α → β} (inj : ∀ a b, f a = f b → a = b) : ∀ {l : List α}, l.Nodup → (l.map f).Nodup
 | [], _ => .nil
 | a :: r, h => by
  simp only [List.map_cons, List.nodup_cons] at h ⊢
  exact ⟨fun q => by obtain ⟨b, hb, e⟩ := List.mem_map.mp q; exact h.1 (inj _ _ e ▸ hb), dA inj h.2⟩
inductive Inr where
 | o (b : Bool)
 | neg
 | two
noncomputable def Inr.int : Inr → Int
 | .o b => oi b
 | .neg => -1
 | .two => 2
noncomputable def lo : Option Bool → Int
 | some b => oi b
 | none => 2
structure Told where
 leaks : List (Option Bool)
 kept : List (Inr × Option Bool)
 t : Bool → List (Option Bool)
noncomputable def loK (i : Option Bool) : Key := .p (.int (lo i))
noncomputable def kpK (p : Inr × Option Bool) : Key := .t [.int p.1.int, .int (lo p.2)]
noncomputable def tdK (i : Option Bool) : Key := .p (.int (ii i))
theorem Inr.inj {a b : Inr} (h : a.int = b.int) : a = b := by
 rcases a with (_ | _) | _ | _ <;> rcases b with (_ | _) | _ | _ <;> first | rfl | exact absurd h (by decide)
theorem lo_inj {a b : Option Bool} (h : lo a = lo b) : a = b := by
 rcases a with _ | (_ | _) <;> rcases b with _ | (_ | _) <;> first | rfl | exact absurd h (by decide)
theorem mY (a b : Option Bool) (h : loK a = loK b) : a = b := by
 simp only [loK, Key.p.injEq, Prim.int.injEq] at h
 exact lo_inj h
theorem jZ (a b : Inr × Option Bool) (h : kpK a = kpK b) : a = b := by
 simp only [kpK, Key.t.injEq, List.cons.injEq, Prim.int.injEq, and_true] at h
 exact Prod.ext (Inr.inj h.1) (lo_inj h.2)
theorem tdK_inj (a b : Option Bool) (h : tdK a = tdK b) : a = b := by
 simp only [tdK, Key.p.injEq, Prim.int.injEq] at h
 exact ii_inj h
structure Told.Ok (W : Told) : Prop where
 leaks : W.leaks.Nodup
 kept : W.kept.Nodup
 t : ∀ b, (W.t b).Nodup
theorem i5 {l : List (Option Bool)} (h : l.Nodup) : l.length ≤ 3 := cr (m := [none, some false, some true]) h fun x ξ => by rcases x with _ | (_ | _) <;> simp
theorem mv {l : List (Inr × Option Bool)} (h : l.Nodup) : l.length ≤ 12 := cr (m := ([.o false, .o true, .neg, .two] : List Inr).flatMap fun i => [(i, none), (i, some false), (i, some true)]) h fun x ξ => by
 obtain ⟨i, o⟩ := x
 exact List.mem_flatMap.mpr ⟨i, by rcases i with (_ | _) | _ | _ <;> repeat (first | exact List.Mem.head _ | apply List.Mem.tail), by rcases o with _ | (_ | _) <;> repeat (first | exact List.Mem.head _ | apply List.Mem.tail)⟩
theorem qU {l : List (Option Bool)} (h : l.Nodup) : sOk (l.map loK) = true := mO (by rw [List.length_map]; have := i5 h; omega) (dA mY h) fun a ha b hb => by
 obtain ⟨x, ξ, rfl⟩ := List.mem_map.mp ha
 obtain ⟨y, ξ, rfl⟩ := List.mem_map.mp hb
 rfl
theorem nB {l : List (Inr × Option Bool)} (h : l.Nodup) : sOk (l.map kpK) = true := mO (by rw [List.length_map]; have := mv h; omega) (dA jZ h) fun a ha b hb => by
 obtain ⟨x, ξ, rfl⟩ := List.mem_map.mp ha
 obtain ⟨y, ξ, rfl⟩ := List.mem_map.mp hb
 obtain ⟨x1, x2⟩ := x
 obtain ⟨y1, y2⟩ := y
 show (true && (if Prim.int _ = Prim.int _ then (if Prim.int _ = Prim.int _ then true else true) else true)) = true
 split <;> first | rfl | (split <;> rfl)
set_option genInjectivity false in
structure TFix where
 su : Nat
 sd : Nat
 lv : Nat
 kp : Nat
 tl : Nat
 t : Bool → Nat
noncomputable def tabT (W : Told) (G : TFix) : List (Key × V) := (([false, true] : List Bool).filter fun b => !(W.t b).isEmpty).map fun b => (.p (.int (oi b)), .ref (G.t b))
structure TRep (G : TFix) (sm : Nat) (H : MH) (W : Told) : Prop where
 sm : IsD H sm [(.p (.str "k"), .ref G.su)]
 su : H[G.su]? = some (.inst 54 G.sd)
 sd : H[G.sd]? = some (.ns [("leaks", .ref G.lv), ("kept", .ref G.kp), ("told", .ref G.tl)])
 lv : IsD H G.lv ((W.leaks.map loK).map ent)
 kp : IsD H G.kp ((W.kept.map kpK).map ent)
 tl : IsD H G.tl (tabT W G)
 t : ∀ b, W.t b ≠ [] → IsD H (G.t b) (((W.t b).map tdK).map ent)
noncomputable def TMem (G : TFix) (sm : Nat) (W : Told) (i : Nat) : Prop := i = sm ∨ i = G.su ∨ i = G.sd ∨ i = G.lv ∨ i = G.kp ∨ i = G.tl ∨ ∃ b, W.t b ≠ [] ∧ i = G.t b
structure TFlow (F : Fix) (G : TFix) (H : MH) (A : At) (W : Told) : Prop where
 rep : TRep G F.sm H W
 free : ∀ i, TMem G F.sm W i → ¬ Own F A i
section
variable {F : Fix} {G : TFix} {W : Told} {H H' H'' : MH} {A A' A'' : At} {S S' : St} {P : V → MH → Prop} {T : Fl × Loc → MH → Prop} {loc : Loc}
theorem TRep.lt {sm : Nat} (r : TRep G sm H W) {i : Nat} (h : TMem G sm W i) : i < H.length := by
 rcases h with rfl | rfl | rfl | rfl | rfl | rfl | ⟨b, hb, rfl⟩
 ·exact r.sm.lt
 ·exact bA r.su
 ·exact bA r.sd
 ·exact r.lv.lt
 ·exact r.kp.lt
 ·exact r.tl.lt
 ·exact (r.t b hb).lt
theorem TRep.keep {sm : Nat} (r : TRep G sm H W) (k : ∀ i m, TMem G sm W i → H[i]? = some m → H'[i]? = some m) : TRep G sm H' W := {
 sm := by obtain ⟨n, e⟩ := r.sm; exact ⟨n, k _ _ (.inl rfl) e⟩
 su := k _ _ (.inr (.inl rfl)) r.su
 sd := k _ _ (.inr (.inr (.inl rfl))) r.sd
 lv := by obtain ⟨n, e⟩ := r.lv; exact ⟨n, k _ _ (.inr (.inr (.inr (.inl rfl)))) e⟩
 kp := by obtain ⟨n, e⟩ := r.kp; exact ⟨n, k _ _ (.inr (.inr (.inr (.inr (.inl rfl))))) e⟩
 tl := by obtain ⟨n, e⟩ := r.tl; exact ⟨n, k _ _ (.inr (.inr (.inr (.inr (.inr (.inl rfl)))))) e⟩
 t := fun b hb => by obtain ⟨n, e⟩ := r.t b hb; exact ⟨n, k _ _ (.inr (.inr (.inr (.inr (.inr (.inr ⟨b, hb, rfl⟩)))))) e⟩ }
theorem TFlow.fr (r : TFlow F G H A W) (f : Fr F H A H' A') : TFlow F G H' A' W :=
 ⟨r.rep.keep fun i m hi e => f.get e (r.free i hi), fun i hi => (f.2 i (r.rep.lt hi) (r.free i hi)).2⟩
theorem TFlow.ext (r : TFlow F G H A W) (x : Ext H H') : TFlow F G H' A W := r.fr x.fr
theorem TRep.get {sm : Nat} (r : TRep G sm H W) {b : Bool} {e : Nat} (he : IsD H e []) (h : ∀ l, IsD H l (((W.t b).map tdK).map ent) → (l = e ∨ TMem G sm W l) → P (.ref l) H) : Ok (mGet [.ref G.tl, .int (oi b), .ref e]) H P := by
 have ap : allP (tabT W G) = true := by
  unfold tabT allP
  simp [Key.isP]
 refine iA r.tl (p := .int (oi b)) rfl ap ?_
 by_cases hb : W.t b = []
 ·have : dget (tabT W G) (.p (.int (oi b))) = none := by
   cases b
   ·unfold tabT
    by_cases hc : W.t true = []
    ·simp [hb, hc, dget]
    ·have : (W.t true).isEmpty = false := by simpa using hc
     simp [hb, this, dget, oi]
   ·unfold tabT
    by_cases hc : W.t false = []
    ·simp [hb, hc, dget]
    ·have : (W.t false).isEmpty = false := by simpa using hc
     simp [hb, this, dget, oi]
  rw [this]
  exact h e (by rw [hb]; exact he) (.inl rfl)
 ·have : dget (tabT W G) (.p (.int (oi b))) = some (.ref (G.t b)) := by
   have h1 : (W.t b).isEmpty = false := by simpa using hb
   cases b
   ·unfold tabT
    simp [h1, dget]
   ·unfold tabT
    by_cases hc : W.t false = []
    ·simp [h1, hc, dget]
    ·have : (W.t false).isEmpty = false := by simpa using hc
     simp [h1, this, dget, oi]
  rw [this]
  exact h _ (r.t b hb) (.inr (.inr (.inr (.inr (.inr (.inr (.inr ⟨b, hb, rfl⟩)))))))
end
noncomputable def selI (U : Bool → Tk → Prop) : Inr → Tk → Prop
 | .o b => U b
 | _ => fun t => t = .beyond
noncomputable def selT (U : Bool → Tk → Prop) : Option Bool → Tk → Prop
 | some b => U b
 | none => fun t => t = .beyond
noncomputable def FolU (W : Told) (U : Bool → Tk → Prop) (res : List (Bool × Fin 8)) (τ : St) : Prop :=
 (∀ i ∈ W.leaks, ∀ b, i = some b → Lk τ (U b)) ∧ (∀ p ∈ W.kept, ∀ b, p.2 = some b → ∀ g, U b g → Pt τ (selI U p.1) g) ∧ ∀ q ∈ res, ∀ j ∈ W.t q.1, ∀ t, selT U j t → τ (.held q.2 t)
noncomputable def hU (r : Bool → Fin 8) (τ : St) (b : Bool) (t : Tk) : Prop := Reach τ (fun t => τ (.held (r b) t)) t
noncomputable def Fol (W : Told) (r : Bool → Fin 8) (res : List (Bool × Fin 8)) (τ : St) : Prop := FolU W (hU r τ) res τ
theorem Pt.anti {S : St} {X Y : Tk → Prop} (h : ∀ t, X t → Y t) {g : Tk} (p : Pt S Y g) : Pt S X g := by
 cases g with
 | beyond => exact Lk.mono p h
 | out o => exact fun t r => p t (r.mono (fun ξ h => h) h)
 | site s => exact ⟨fun u hu => p.1 u (h u hu), fun q => (p.2 q).mono h⟩
theorem FolU.anti {W : Told} {U U' : Bool → Tk → Prop} {res : List (Bool × Fin 8)} {τ : St} (h : ∀ b t, U b t → U' b t) (f : FolU W U' res τ) : FolU W U res τ := by
 have hi : ∀ i t, selI U i t → selI U' i t := fun i t q => by
  cases i with
  | o b => exact h b t q
  | neg => exact q
  | two => exact q
 have ht : ∀ i t, selT U i t → selT U' i t := fun i t q => by
  cases i with
  | some b => exact h b t q
  | none => exact q
 exact ⟨fun i hi b e => (f.1 i hi b e).mono (h b), fun p hp b e g hg => (f.2.1 p hp b e g (h b g hg)).anti (hi _), fun q hq j hj t hs => f.2.2 q hq j hj t (ht j t hs)⟩
theorem hU.mono {r : Bool → Fin 8} {S T : St} (h : ∀ f, S f → T f) (b : Bool) (t : Tk) (u : hU r S b t) : hU r T b t := Reach.mono h (fun t => h _) u
theorem Fol.conv1 {W : Told} {r : Bool → Fin 8} {res : List (Bool × Fin 8)} {S τ : St} (h : ∀ f, S f → τ f) (f : Fol W r res τ) : FolU W (hU r S) res τ := FolU.anti (hU.mono h) f
section
variable {F : Fix} {G : TFix} {W : Told} {H H' H'' : MH} {A A' A'' : At} {S S' : St} {P : V → MH → Prop} {B : Bool → MH → Prop} {T : Fl × Loc → MH → Prop} {loc : Loc}
theorem jx {CP : Loc → MH → Prop} {ok : MH → Prop} {b : TM} {t : EM Bool} {g : CM} {v w : V} (h : ok H ∧ ∃ l₁, b v loc = some l₁ ∧ Ok (t l₁) H fun x H₁ => x = true ∧ Ok (g l₁) H₁ fun l₂ H₂ => ok H₂ ∧ ∃ l₃, b w l₂ = some l₃ ∧ Ok (t l₃) H₂ fun x H₃ => x = true ∧ Ok (g l₃) H₃ fun l₄ H₄ => ok H₄ ∧ CP l₄ H₄) : Ok (cu ok b t g [v, w] loc) H CP := by
 obtain ⟨o1, l₁, e1, x, H₁, e2, rfl, l₂, H₂, e3, o2, l₃, e4, y, H₃, e5, rfl, l₄, H₄, e6, o3, q⟩ := h
 refine ⟨l₄, H₄, ?_, q⟩
 rw [d5, if_pos o1, e1]
 dsimp only
 rw [e2]
 dsimp only
 rw [e3]
 dsimp only
 rw [d5, if_pos o2, e4]
 dsimp only
 rw [e5]
 dsimp only
 rw [e6]
 dsimp only
 rw [ic, if_pos o3]
theorem nZ {m m' : V → V → OM V} {f g g' : EM V} (h : Ok (f loc) H fun a H₁ => Ok (g loc) H₁ fun b H₂ => Ok (m a b) H₂ fun c H₃ => (c = .bool false ∧ B false H₃) ∨ (c = .bool true ∧ Ok (g' loc) H₃ fun d H₄ => Ok (m' b d) H₄ fun z H₅ => ∃ t, z = .bool t ∧ B t H₅)) : Ok (nc m m' f g g' loc) H B := by
 refine .bnd (h.mono fun a H₁ q => .bnd (q.mono fun b H₂ q => .bnd (q.mono fun c H₃ q => ?_)))
 rcases q with ⟨rfl, q⟩ | ⟨rfl, q⟩
 ·exact .rt q
 ·exact .bnd (q.mono fun d H₄ q => .bnd (q.mono fun z H₅ q => by obtain ⟨t, rfl, q⟩ := q; exact .rt q))
structure Hand (H : MH) (lh : Nat) (ls : Bool → Nat) (us : Bool → List Tk) : Prop where
 top : H[lh]? = some (.list [.ref (ls false), .ref (ls true)])
 sub : ∀ b, H[ls b]? = some (.list ((us b).map Tk.v))
theorem Hand.ext {lh : Nat} {ls : Bool → Nat} {us : Bool → List Tk} (h : Hand H lh ls us) (x : Ext H H') : Hand H' lh ls us := ⟨x.get h.top, fun b => x.get (h.sub b)⟩
theorem Hand.fr {lh : Nat} {ls : Bool → Nat} {us : Bool → List Tk} (h : Hand H lh ls us) (R : Flow F H A S) (x : Fr F H A H' A') : Hand H' lh ls us := ⟨x.list R h.top, fun b => x.list R (h.sub b)⟩
theorem Hand.item {lh : Nat} {ls : Bool → Nat} {us : Bool → List Tk} (h : Hand H lh ls us) {b : Bool} (p : P (.ref (ls b)) H) : Ok (ah (.ref lh) (.int (oi b))) H P := by
 cases b
 ·exact b7 (i := 0) h.top (by decide) rfl p
 ·exact b7 (i := 1) h.top (by decide) rfl p
theorem Hand.lt {lh : Nat} {ls : Bool → Nat} {us : Bool → List Tk} (h : Hand H lh ls us) {i j : Nat} {o : Option Bool} (hi : loc[i]? = some (some (.int (lo o)))) (hj : loc[j]? = some (some (.ref lh))) (p : B o.isSome H) : Ok (bV (e2 mLt (eLoc i) (eL mLen (ac (eLoc j) (lNil)))) loc) H B := by
 refine aR <| ak <| ad hi <| aC <| aa <| ad hj <| ae <| cU h.top (show 2 ≤ lim from lim2) <| kF ⟨_, rfl, ?_⟩
 rcases o with _ | (_ | _) <;> exact p
noncomputable def fLoc (F : Fix) (su lr lg lh : Nat) (y : Nat → Option V) : Loc := [some (.ref F.fl), some (.ref su), some (.ref lr), some (.ref lg), some (.ref lh), y 5, y 6, y 7, y 8, y 9, none, none, none, none, none]
theorem re (as : List (Option Bool)) : (as.map loK).map V.ofKey = as.map fun i => V.int (lo i) := by rw [List.map_map]; rfl
theorem l8 (as : List (Inr × Option Bool)) : (as.map kpK).map V.ofKey = as.map fun p => V.tup [.int p.1.int, .int (lo p.2)] := by rw [List.map_map]; rfl
theorem ok_hand (R : Flow F H A S) {r : Bool → Fin 8} {su lr lg : Nat} (hr : H[lr]? = some (.list [regV (r false), regV (r true)]))
  (h : ∀ lh ls us H', Hand H' lh ls us → Ext H H' → (∀ b, (us b).Nodup) → (∀ b t, t ∈ us b ↔ hU r S b t) → P (.ref lh) H') :
  Ok (cQ (itV (eLoc 2)) [none, none, some 0] (aT 1) (eC true) (cS (aw (au 204 "reached") a8 (eLoc 2) (ac (aw (au 204 "tokens_of") az (eLoc 2) (ac (eLoc 1) (lNil))) (lNil)))) (some (.ref F.fl) :: some (.ref su) :: some (.ref lr) :: some (.ref lg) :: loc)) H P := by
 have x₀ : Ext H (H ++ [MObj.list []]) := .app
 have turn : ∀ (H₁ : MH) (b : Bool) (Q : V → MH → Prop) (w : Option V), Ext H H₁ → (∀ (l : Nat) (us : List Tk) (H₂ : MH), H₂[l]? = some (.list (us.map Tk.v)) → us.Nodup → (∀ t, t ∈ us ↔ hU r S b t) → Ext H₁ H₂ → H₁.length ≤ l → Q (.ref l) H₂) →
   Ok (aw (au 204 "reached") a8 (eLoc 2) (ac (aw (au 204 "tokens_of") az (eLoc 2) (ac (eLoc 1) (lNil))) (lNil)) [none, some (regV (r b)), some (.ref F.fl)]) H₁ Q := by
  intro H₁ b Q w x k
  have R₁ := R.ext x
  refine bn <| ad rfl <| R₁.bound (fun ξ => rfl) <| aa <| bn <| ad rfl <| R₁.bound (fun ξ => rfl) <| aa <| ad rfl <| ae <| (fy R₁ (r := r b)).mono fun v H₂ g => ?_
  obtain ⟨l, ts, rfl, hl, nd, ht, x₂, ξ⟩ := g
  have h7 := d9 nd
  refine ae <| (iu (R₁.ext x₂) hl (by omega)).mono fun v H₃ g => ?_
  obtain ⟨l', us, rfl, hl', nd', hu, x₃, hle⟩ := g
  refine k l' us H₃ hl' nd' (fun t => ?_) (x₂.trans x₃) (Nat.le_trans x₂.1 hle)
  rw [hu]
  exact ⟨fun q => q.mono (fun ξ h => h) fun t h => (ht t).mp h, fun q => Reach.mono (fun ξ h => h) (fun t h => (ht t).mpr h) q⟩
 refine hK <| bK <| ad rfl <| bh hr ?_
 have l0 : (H ++ [MObj.list []]).length = H.length + 1 := by simp
 refine jx ⟨x₀.get hr, _, rfl, c9 ⟨rfl, fV <| turn _ false _ none x₀ fun l us H₂ hl nd hu x hle => ⟨[], x.get aj, by decide, ?_⟩⟩⟩
 have e₂ : Ext H (H₂.set H.length (.list ([] ++ [.ref l]))) := (x₀.trans x).set (Nat.le_refl _)
 have hl2 : H.length ≠ l := by omega
 have g₂ : (H₂.set H.length (.list ([] ++ [.ref l])))[H.length]? = some (.list [.ref l]) := cD (x.get aj)
 have k₂ : (H₂.set H.length (.list ([] ++ [.ref l])))[l]? = some (.list (us.map Tk.v)) := by rw [List.getElem?_set_ne hl2]; exact hl
 generalize H₂.set H.length (.list ([] ++ [.ref l])) = H₂' at e₂ g₂ k₂ ⊢
 refine ⟨e₂.get hr, _, rfl, c9 ⟨rfl, fV <| turn _ true _ none e₂ fun l' us' H₃ hl' nd' hu' x' hle' => ⟨[.ref l], x'.get g₂, show 1 < lim by decide, ?_⟩⟩⟩
 have e₃ : Ext H (H₃.set H.length (.list ([.ref l] ++ [.ref l']))) := (e₂.trans x').set (Nat.le_refl _)
 have lt₂ := bA g₂
 have hl3 : H.length ≠ l' := by omega
 refine ⟨e₃.get hr, h H.length (fun b => bif b then l' else l) (fun b => bif b then us' else us) _ ⟨cD (x'.get g₂), fun b => ?_⟩ e₃ (fun b => ?_) fun b t => ?_⟩
 ·cases b
  ·show (H₃.set H.length _)[l]? = _
   rw [List.getElem?_set_ne hl2]; exact x'.get k₂
  ·show (H₃.set H.length _)[l']? = _
   rw [List.getElem?_set_ne hl3]; exact hl'
 ·cases b
  ·exact nd
  ·exact nd'
 ·cases b
  ·exact hu t
  ·exact hu' t
end
section
variable {F : Fix} {G : TFix} {W : Told} {H H' H'' : MH} {A A' A'' : At} {S S' : St} {P : V → MH → Prop} {B : Bool → MH → Prop} {T : Fl × Loc → MH → Prop} {loc : Loc}
noncomputable def yA (v : V) (y : Nat → Option V) : Nat → Option V
 | 5 => some v
 | j => y j
noncomputable def yB (v w : V) (y : Nat → Option V) : Nat → Option V
 | 5 => some v
 | 6 => some w
 | j => y j
noncomputable def yC (v w : V) (y : Nat → Option V) : Nat → Option V
 | 7 => some v
 | 8 => some w
 | j => y j
noncomputable def yD (v : V) (y : Nat → Option V) : Nat → Option V
 | 9 => some v
 | j => y j
theorem beyV : V.tup [.str "beyond"] = Tk.beyond.v := rfl
theorem lW (R : Flow F H A S) (TF : TFlow F G H A W) (hW : W.Ok) {r : Bool → Fin 8} {lr lg : Nat} (hr : H[lr]? = some (.list [regV (r false), regV (r true)])) {res : List (Bool × Fin 8)} (hres : b9 0 (res.map fun q => V.int ((q.2.val : Nat) : Int)) = res.map fun q => V.tup [.int (oi q.1), .int ((q.2.val : Nat) : Int)])
  (hg : H[lg]? = some (.list (res.map fun q => V.int ((q.2.val : Nat) : Int)))) : Ok (br [.ref F.fl, .ref G.su, .ref lr, .ref lg]) H fun ξ H' => Go F (Fol W r res) H A S H' := by
 refine a9 rfl <| af <| aO <| ok_hand R hr fun lh ls us H₁ hh x₁ nd hu => ⟨rfl, ?_⟩
 have R₁ := R.ext x₁
 have TF₁ := TF.ext x₁
 have h7 : ∀ b, (us b).length ≤ 1000 := fun b => Nat.le_trans (d9 (nd b)) (by decide)
 have hUe : (fun b t => t ∈ us b) = hU r S := funext fun b => funext fun t => propext (hu b t)
 refine af <| b5 <| bK <| aC <| aa <| cA <| ad rfl <| bE TF₁.rep.su TF₁.rep.sd rfl rfl <| ae <| gj TF₁.rep.lv (qU hW.leaks) ?_
 obtain ⟨as, ea, ma⟩ := iK mY W.leaks
 rw [ea, re]
 have x₂ : Ext H₁ (H₁ ++ [MObj.list (as.map fun i => V.int (lo i))]) := .app
 refine bh aj ?_
 refine (R₁.ext x₂).each (α := Option Bool) (β := Nat → Option V) (C := fun i τ => ∀ b, i = some b → Lk τ (· ∈ us b)) (mk := fLoc F G.su lr lg lh) (fun H' A' fr => fr.list (R₁.ext x₂) aj) (fun i ξ y H' A' S' R' fr => ⟨fLoc F G.su lr lg lh (yA (.int (lo i)) y), rfl, ?_⟩) (fun ξ => none) fun y₂ H₂ g₂ => ⟨rfl, ?_⟩
 ·have hh' := (hh.ext x₂).fr (R₁.ext x₂) fr
  refine af <| aD <| hh'.lt (o := i) rfl rfl ?_
  cases i with
  | none => exact ag ⟨rfl, ag ⟨.inl rfl, ⟨yA _ y, rfl⟩, .skip R' fun b e => by cases e⟩⟩
  | some b =>
   exact af <| aq <| R'.call rfl (fun ξ => rfl) <| aa <| ak <| ad rfl <| ad rfl <| hh'.item (b := b) <| ae <| (hG R' (hh'.sub b) (h7 b)).mono fun ξ H'' g => ⟨rfl, ag ⟨rfl, ag ⟨.inl rfl, ⟨yA _ y, rfl⟩, g.conv (fun τ ξ h => h b rfl) fun h b' e => by cases e; exact h⟩⟩⟩
 obtain ⟨A₂, S₂, R₂, fr₂, d₂⟩ := g₂.start x₂
 have hh₂ := hh.fr R₁ fr₂
 have TF₂ := TF₁.fr fr₂
 have hg₂ := fr₂.list R₁ (x₁.get hg)
 refine af <| b5 <| bK <| aC <| aa <| cA <| ad rfl <| bE TF₂.rep.su TF₂.rep.sd rfl rfl <| ae <| gj TF₂.rep.kp (nB hW.kept) ?_
 obtain ⟨ps, ep, mp⟩ := iK jZ W.kept
 rw [ep, l8]
 have x₃ : Ext H₂ (H₂ ++ [MObj.list (ps.map fun p => V.tup [.int p.1.int, .int (lo p.2)])]) := .app
 refine bh aj ?_
 refine (R₂.ext x₃).each (α := Inr × Option Bool) (β := Nat → Option V) (C := fun p τ => ∀ b, p.2 = some b → ∀ g ∈ us b, Pt τ (selI (fun b t => t ∈ us b) p.1) g) (mk := fLoc F G.su lr lg lh) (fun H' A' fr => fr.list (R₂.ext x₃) aj) (fun p ξ y H' A' S' R' fr => ⟨fLoc F G.su lr lg lh (yB (.int (lo p.2)) (.int p.1.int) y), rfl, ?_⟩) y₂ fun y₃ H₃ g₃ => ⟨rfl, ?_⟩
 ·have hh' := (hh₂.ext x₃).fr (R₂.ext x₃) fr
  obtain ⟨i, o⟩ := p
  refine af <| aD <| hh'.lt (o := o) rfl rfl ?_
  cases o with
  | none => exact ag ⟨rfl, ag ⟨.inl rfl, ⟨yB _ _ y, rfl⟩, .skip R' fun b e => by cases e⟩⟩
  | some b =>
   have put : ∀ (H₄ : MH) (l : Nat) (ts : List Tk), Ext H' H₄ → H₄[l]? = some (.list (ts.map Tk.v)) → ts.length ≤ 1000 → (∀ t, t ∈ ts ↔ selI (fun b t => t ∈ us b) i t) → Ok (bj [.ref F.fl, .ref (ls b), .ref l]) H₄ fun ξ H₅ => Go F (fun τ => ∀ b', some b = some b' → ∀ g ∈ us b', Pt τ (selI (fun b t => t ∈ us b) i) g) H' A' S' H₅ := by
    intro H₄ l ts x hl hlen hts
    have e : (fun t => t ∈ ts) = selI (fun b t => t ∈ us b) i := funext fun t => propext (hts t)
    refine (ok_put (R'.ext x) (x.get (hh'.sub b)) hl hlen).mono fun ξ H₅ g => ?_
    rw [e] at g
    exact (g.start x).conv (fun τ ξ h => h b rfl) fun h b' eb => by cases eb; exact h
   refine af <| aq <| R'.call rfl (fun ξ => rfl) <| aa <| ak <| ad rfl <| ad rfl <| hh'.item (b := b) <| aa <| bM <| nZ <| ok_C <| ad rfl ?_
   cases i with
   | o b' =>
    refine lU <| .inr ⟨by cases b' <;> rfl, aC <| aa <| ad rfl <| ae <| cU hh'.top (show 2 ≤ lim from lim2) <| kF ⟨true, by cases b' <;> rfl, ?_⟩⟩
    exact ak <| ad rfl <| ad rfl <| hh'.item (b := b') <| ae <| (put H' (ls b') (us b') .refl (hh'.sub b') (h7 b') fun t => .rfl).mono fun ξ H'' g => ⟨rfl, ag ⟨rfl, ag ⟨.inl rfl, ⟨yB _ _ y, rfl⟩, g⟩⟩⟩
   | neg =>
    refine lU <| .inl ⟨rfl, ?_⟩
    exact aF <| aa <| ok_C <| ae ⟨lim1, ae <| (put _ _ [.beyond] .app aj (by decide) fun t => by simp [selI]).mono fun ξ H'' g => ⟨rfl, ag ⟨rfl, ag ⟨.inl rfl, ⟨yB _ _ y, rfl⟩, g⟩⟩⟩⟩
   | two =>
    refine lU <| .inr ⟨rfl, aC <| aa <| ad rfl <| ae <| cU hh'.top (show 2 ≤ lim from lim2) <| kF ⟨false, rfl, ?_⟩⟩
    exact aF <| aa <| ok_C <| ae ⟨lim1, ae <| (put _ _ [.beyond] .app aj (by decide) fun t => by simp [selI]).mono fun ξ H'' g => ⟨rfl, ag ⟨rfl, ag ⟨.inl rfl, ⟨yB _ _ y, rfl⟩, g⟩⟩⟩⟩
 obtain ⟨A₃, S₃, R₃, fr₃, d₃⟩ := g₃.start x₃
 have hh₃ := hh₂.fr R₂ fr₃
 have TF₃ := TF₂.fr fr₃
 have hg₃ := fr₃.list R₂ hg₂
 refine af <| b5 <| iz <| aa <| ad rfl <| ae ?_
 refine ⟨.enum lg (res.map fun q => V.int ((q.2.val : Nat) : Int)), H₃, by unfold jM; dsimp only; rw [hg₃], ?_⟩
 show Ok (bt _ _ _ (b9 0 (res.map fun q => V.int ((q.2.val : Nat) : Int))) _) _ _
 rw [hres]
 refine R₃.each (α := Bool × Fin 8) (β := Nat → Option V) (C := fun q τ => ∀ j ∈ W.t q.1, ∀ t, selT (fun b t => t ∈ us b) j t → τ (.held q.2 t)) (mk := fLoc F G.su lr lg lh) (fun H' A' fr => fr.list R₃ hg₃) (fun q ξ y H' A' S' R' fr => ⟨fLoc F G.su lr lg lh (yC (.int (oi q.1)) (.int ((q.2.val : Nat) : Int)) y), rfl, ?_⟩) y₃ fun y₄ H₄ g₄ => ⟨rfl, ag (.inr ⟨rfl, ?_⟩)⟩
 ·have TF' := TF₃.fr fr
  have hh' := hh₃.fr R₃ fr
  have xd : Ext H' (H' ++ [MObj.dict [] 0]) := .app
  refine af <| b5 <| bK <| bn <| cA <| ad rfl <| bE TF'.rep.su TF'.rep.sd rfl rfl <| b8 TF'.rep.tl <| aa <| ad rfl <| aa <| cq <| ae <| (TF'.ext xd).rep.get (b := q.1) ⟨0, aj⟩ fun l hl hm => ?_
  obtain ⟨n, hn⟩ := hl
  have hfree : ¬ Own F A' l := by
   rcases hm with rfl | hm
   ·exact R'.new_free (Nat.le_refl _)
   ·exact TF'.free l hm
  refine dE hn ?_
  have ei : (((W.t q.1).map tdK).map ent).map (fun e => V.ofKey e.1) = (W.t q.1).map fun j => V.int (ii j) := by simp only [List.map_map]; rfl
  show Ok (bt _ _ _ ((((W.t q.1).map tdK).map ent).map fun e => V.ofKey e.1) _) _ _
  rw [ei]
  refine (R'.ext xd).each (α := Option Bool) (β := Nat → Option V) (C := fun j τ => ∀ t, selT (fun b t => t ∈ us b) j t → τ (.held q.2 t)) (mk := fun y => fLoc F G.su lr lg lh (yC (.int (oi q.1)) (.int ((q.2.val : Nat) : Int)) y)) (fun H' A' fr => fr.get hn hfree) (fun j ξ y H'' A'' S'' R'' fr'' => ⟨fLoc F G.su lr lg lh (yC (.int (oi q.1)) (.int ((q.2.val : Nat) : Int)) (yD (.int (ii j)) y)), rfl, ?_⟩) y fun y' H'' g => ⟨rfl, ag ⟨.inl rfl, ⟨yC _ _ y', rfl⟩, g.start xd⟩⟩
  have hh'' := (hh'.ext xd).fr (R'.ext xd) fr''
  refine af <| aq <| R''.call rfl (fun ξ => rfl) <| aa <| ad rfl <| aa <| bM <| aR <| ak <| ad rfl <| ok_C <| gG (eT j) (by decide +kernel) ⟨_, rfl, ?_⟩
  cases j with
  | none =>
   refine aF <| aa <| ok_C <| ae ⟨lim1, ae <| (mW (R''.ext .app) (r := q.2) (ts := [.beyond]) aj).mono fun ξ H₅ g => ⟨rfl, ag ⟨.inl rfl, ⟨yD _ y, rfl⟩, ?_⟩⟩⟩
   exact (Go.start .app g).conv (fun τ ξ h t ht => h t (List.mem_singleton.mp ht)) fun h t ht => h t (List.mem_singleton.mpr ht)
  | some b =>
   have hd : decide (ii (some b) = -1) = false := by cases b <;> decide
   rw [hd]
   exact ak <| ad rfl <| ad rfl <| hh''.item (b := b) <| ae <| (mW R'' (r := q.2) (hh''.sub b)).mono fun ξ H₅ g => ⟨rfl, ag ⟨.inl rfl, ⟨yD _ y, rfl⟩, g⟩⟩
 ·obtain ⟨A₄, S₄, R₄, fr₄, d₄⟩ := g₄
  refine ⟨A₄, S₄, R₄, x₁.fr.trans (fr₂.trans (fr₃.trans fr₄)), ?_⟩
  have d : Doing (FolU W (fun b t => t ∈ us b) res) S S₄ := (d₂.trans (d₃.and d₄) (E := FolU W (fun b t => t ∈ us b) res) (fun τ ξ h => ⟨fun i hi => h.1 i ((ma i).mp hi), fun p hp => h.2.1 p ((mp p).mp hp), h.2.2⟩) fun c d => ⟨fun i hi => c i ((ma i).mpr hi), fun p hp => d.1 p ((mp p).mpr hp), d.2⟩)
  rw [hUe] at d
  exact d.conv (fun τ hs f => Fol.conv1 hs f) fun h => h
end
section
variable {F : Fix} {G : TFix} {W : Told} {H H' H'' : MH} {A A' A'' : At} {S S' : St} {P : V → MH → Prop} {B : Bool → MH → Prop} {T : Fl × Loc → MH → Prop} {loc : Loc}
theorem jw {α β : Type} {CP : Loc → MH → Prop} {val : α → V} {p : α → Bool} {em : α → V} {mk : β → Loc} {b : TM} {t : EM Bool} {f : EM V} {ok : MH → Prop} (hok : ∀ H', Ext H H' → ok H') : ∀ (xs : List α) (pre : List V) (y : β), pre.length + xs.length ≤ 1000 →
  (∀ x ∈ xs, ∀ y H', Ext H H' → ∃ y', b (val x) (mk y) = some (mk y') ∧ (∀ B : Bool → MH → Prop, B (p x) H' → Ok (t (mk y')) H' B) ∧ (p x = true → ∀ P : V → MH → Prop, P (em x) H' → Ok (f (mk y')) H' P)) →
  (∀ y', CP (mk y') (H ++ [.list (pre ++ (xs.filter p).map em)])) → Ok (cu ok b t (cS f H.length) (xs.map val) (mk y)) (H ++ [.list pre]) CP := by
 intro xs pre y hl hb h
 have sl : ∀ m m' : MObj, (H ++ [m]).set H.length m' = H ++ [m'] := fun m m' => by simp
 refine jv (fun ds H' => H' = H ++ [.list (pre ++ (ds.filter p).map em)]) (fun ds H' q => by rw [q]; exact hok _ .app) (fun ds x rs y H' e q => ?_) y (by simp) fun y H' q => by rw [q]; exact h y
 subst q
 have lf := List.length_filter_le p ds
 obtain ⟨y', e1, e2, e3⟩ := hb x (by rw [e]; simp) y _ .app
 rw [e] at hl
 simp only [List.length_append, List.length_cons] at hl
 refine ⟨mk y', e1, e2 _ ?_⟩
 rw [List.filter_append, List.map_append, ← List.append_assoc]
 cases hp : p x with
 | true =>
  refine fV (e3 hp _ ⟨_, aj, ?_, ?_⟩)
  ·rw [List.length_append, List.length_map]; exact Nat.lt_of_le_of_lt (show pre.length + (ds.filter p).length ≤ 1000 by omega) (by decide)
  ·exact ⟨⟨y', rfl⟩, by rw [sl, List.filter_cons_of_pos hp]; rfl⟩
 | false => exact ⟨⟨y', rfl⟩, by rw [List.filter_cons_of_neg (by rw [hp]; decide)]; simp⟩
theorem dF {α β : Type} {val : α → V} {p : α → Bool} {em : α → V} {mk : β → Loc} {it : EM Src} {cap : List (Option Nat)} {b : TM} {t : EM Bool} {f : EM V} {xs : List α} {y : β} (hlen : xs.length ≤ 1000) (hcap : fp cap loc = mk y)
  (h : Ok (it loc) H fun src H₁ => src.items = xs.map val ∧ (∀ H', Ext H₁ H' → src.ok H') ∧ (∀ x ∈ xs, ∀ y H', Ext H₁ H' → ∃ y', b (val x) (mk y) = some (mk y') ∧ (∀ B : Bool → MH → Prop, B (p x) H' → Ok (t (mk y')) H' B) ∧ (p x = true → ∀ P : V → MH → Prop, P (em x) H' → Ok (f (mk y')) H' P)) ∧ P (.ref H₁.length) (H₁ ++ [.list ((xs.filter p).map em)])) : Ok (cQ it cap b t (cS f) loc) H P :=
 hK (h.mono fun src H₁ q => by
  obtain ⟨q1, q2, q3, q4⟩ := q
  rw [q1, hcap]
  exact jw q2 xs [] y (by simpa using hlen) q3 fun ξ => q4)
theorem key_k : Key.ok (.p (.str "k")) = true := by decide +kernel
theorem bP {SP : Src → MH → Prop} {l : Nat} {xs : List V} (e : H[l]? = some (.list xs)) (h : ∀ s : Src, s.items = xs → (∀ H', Ext H H' → s.ok H') → SP s H) : Ok (i4 (.ref l)) H SP := bh e (h _ rfl fun H' x => x.get e)
noncomputable def opX (r : Bool → Fin 8) (τ : St) (t : Tk) : Prop := ∃ b, τ (.held (r b) t)
theorem qf (R : Flow F H A S) {r : Bool → Fin 8} {lr : Nat} (hr : H[lr]? = some (.list [regV (r false), regV (r true)])) : Ok (aH [.ref F.fl, .ref lr]) H (Gat H (opX r S)) :=
 (mU R (rs := [r false, r true]) hr (show 2 ≤ 10 by decide)).mono fun v H' g => by
  obtain ⟨l, us, e, h1, h2, h3, h4, h5⟩ := g
  refine ⟨l, us, e, h1, h2, fun u => (h3 u).trans ⟨?_, ?_⟩, h4, h5⟩
  ·rintro ⟨x, hx, q⟩
   rcases List.mem_cons.mp hx with rfl | hx
   ·exact ⟨false, q⟩
   ·rw [List.mem_singleton.mp hx] at q; exact ⟨true, q⟩
  ·rintro ⟨b, q⟩
   cases b
   ·exact ⟨_, by simp, q⟩
   ·exact ⟨r true, by simp, q⟩
theorem opX.mono {r : Bool → Fin 8} {S T : St} (h : ∀ f, S f → T f) {t : Tk} (x : opX r S t) : opX r T t := by obtain ⟨b, q⟩ := x; exact ⟨b, h _ q⟩
theorem kK (R : Flow F H A S) {r : Bool → Fin 8} {lr i : Nat} (hr : H[lr]? = some (.list [regV (r false), regV (r true)])) (h0 : loc[0]? = some (some (.ref F.fl))) (hi : loc[i]? = some (some (.ref lr))) (h : ∀ v H', Go F (fun τ => Lk τ (opX r τ)) H A S H' → P v H') :
  Ok (aw (au 204 "leak") aA (eLoc 0) (ac (aw (au 204 "tokens_of_all") aH (eLoc 0) (ac (eLoc i) (lNil))) (lNil)) loc) H P := by
 refine R.call h0 (fun ξ => rfl) <| aa <| R.call h0 (fun ξ => rfl) <| aa <| ad hi <| ae <| (qf R hr).mono fun v H₁ g => ?_
 obtain ⟨l, us, rfl, hl, hlen, hu, x, ξ⟩ := g
 refine ae <| (hG (R.ext x) hl (by omega)).mono fun v H₂ g => h v H₂ ?_
 exact (g.start x).conv (fun τ hs q => q.mono fun t ht => ((hu t).mp ht).mono hs) fun q => q.mono fun t ht => (hu t).mpr ht
theorem kH (R : Flow F H A S) {r : Fin 8} {f : EM V} (h0 : loc[0]? = some (some (.ref F.fl))) (hi : ∀ Q : V → MH → Prop, Q (regV r) H → Ok (f loc) H Q) (h : ∀ v H', Go F (fun τ => Lk τ (fun t => τ (.held r t))) H A S H' → P v H') :
  Ok (aw (au 204 "leak") aA (eLoc 0) (ac (aw (au 204 "tokens_of") az (eLoc 0) (ac f (lNil))) (lNil)) loc) H P := by
 refine R.call h0 (fun ξ => rfl) <| aa <| R.call h0 (fun ξ => rfl) <| aa <| hi _ <| ae <| (fy R).mono fun v H₁ g => ?_
 obtain ⟨l, us, rfl, hl, nd, hu, x, ξ⟩ := g
 have h7 := d9 nd
 refine ae <| (hG (R.ext x) hl (by omega)).mono fun v H₂ g => h v H₂ ?_
 exact (g.start x).conv (fun τ hs q => q.mono fun t ht => hs _ ((hu t).mp ht)) fun q => q.mono fun t ht => (hu t).mpr ht
noncomputable def Unk (r : Bool → Fin 8) (c : Bool) (res : List (Bool × Fin 8)) (τ : St) : Prop := Lk τ (opX r τ) ∧ (c = true → Lk τ fun t => τ (.held 3 t)) ∧ ∀ q ∈ res, τ (.held q.2 .beyond)
end
section
variable {F : Fix} {G : TFix} {W : Told} {H H' H'' : MH} {A A' A'' : At} {S S' : St} {P : V → MH → Prop} {B : Bool → MH → Prop} {T : Fl × Loc → MH → Prop} {loc : Loc}
theorem iE : Key.ok (.p (.str "fn")) = true := by decide +kernel
theorem pI : Key.ok (.p (.str "go")) = true := by decide +kernel
theorem or : Key.ok (.p (.str "face")) = true := by decide +kernel
theorem gJ : Key.ok (.p (.str "call")) = true := by decide +kernel
theorem mA : Key.ok (.p (.str "defer")) = true := by decide +kernel
theorem my : Key.ok (.p (.str "value")) = true := by decide +kernel
theorem key_none : Key.ok (.p (.str "none")) = true := by decide +kernel
structure Wd (opw fnw : Str) (bcall bgo bfn bface : Bool) : Prop where
 kop : Key.ok (.p (.str opw)) = true
 kfn : Key.ok (.p (.str fnw)) = true
 e1 : decide (opw = "call") = bcall
 e2 : decide (opw = "go") = bgo
 e3 : decide (fnw = "fn") = bfn
 e4 : decide (fnw = "face") = bface
noncomputable def cz (bcall : Bool) : List (Bool × Fin 8) := bif bcall then [(false, 6), (true, 7)] else []
theorem pq (R : Flow F H A S) {r : Bool → Fin 8} {opw fnw : Str} {bcall bgo bfn bface c : Bool} (w : Wd opw fnw bcall bgo bfn bface) {rest : List V} {lr lg : Nat} {u6 u2 : Option V} (hr : H[lr]? = some (.list [regV (r false), regV (r true)])) {res : List (Bool × Fin 8)}
  (hg : H[lg]? = some (.list (res.map fun q => V.int ((q.2.val : Nat) : Int)))) (hc : ((bgo && !bfn) || bface) = c) (hv : c = true → rest[0]? = some (regV 3))
  (h : ∀ lc H', Go F (Unk r c res) H A S H' → T (.next, lc) H') :
  Ok (ai (aL (aw (au 204 "leak") aA (eLoc 0) (ac (aw (au 204 "tokens_of_all") aH (eLoc 0) (ac (eLoc 4) (lNil))) (lNil))))
 (ai (sIf (bOr (bAnd (bV (e2 mEq (eLoc 1) (eC (.str "go")))) (bAnd (bV (e2 mNe (e2 ah (eLoc 3) (eC (.int 0))) (eC (.str "fn")))) (eC true))) (bOr (bV (e2 mEq (e2 ah (eLoc 3) (eC (.int 0))) (eC (.str "face")))) (eC false)))
  (ai (aL (aw (au 204 "leak") aA (eLoc 0) (ac (aw (au 204 "tokens_of") az (eLoc 0) (ac (e2 ah (eLoc 3) (eC (.int 1))) (lNil))) (lNil))))
 (sNil))
  (sNil))
 (ai (sFor (itV (eLoc 5)) (aT 7)
  (ai (aL (aw (au 204 "give") aX (eLoc 0) (ac (eLoc 7) (ac (am (ac (eC (.tup [.str "beyond"])) (lNil))) (lNil)))))
 (sNil)))
 (sNil))) [some (.ref F.fl), some (.str opw), u2, some (.tup (.str fnw :: rest)), some (.ref lr), some (.ref lg), u6, none, none, none]) H T := by
 refine af <| aq <| kK R hr rfl rfl fun ξ H₁ g₁ => ⟨rfl, ?_⟩
 obtain ⟨A₁, S₁, R₁, fr₁, d₁⟩ := g₁
 have hg₁ := fr₁.list R hg
 have last : ∀ (H₂ : MH) (A₂ : At) (S₂ : St), Flow F H₂ A₂ S₂ → Fr F H A H₂ A₂ → Doing (fun τ => Lk τ (opX r τ) ∧ (c = true → Lk τ fun t => τ (.held 3 t))) S S₂ → Ok (ai (sFor (itV (eLoc 5)) (aT 7)
  (ai (aL (aw (au 204 "give") aX (eLoc 0) (ac (eLoc 7) (ac (am (ac (eC (.tup [.str "beyond"])) (lNil))) (lNil)))))
 (sNil)))
 (sNil) [some (.ref F.fl), some (.str opw), u2, some (.tup (.str fnw :: rest)), some (.ref lr), some (.ref lg), u6, none, none, none]) H₂ T := by
  intro H₂ A₂ S₂ R₂ fr₂ d₂
  have hg₂ := fr₂.list R hg
  refine af <| aS <| ad rfl ⟨rfl, hg₂, R₂.each (α := Bool × Fin 8) (β := Option V) (C := fun q τ => τ (.held q.2 .beyond)) (mk := fun w => [some (.ref F.fl), some (.str opw), u2, some (.tup (.str fnw :: rest)), some (.ref lr), some (.ref lg), u6, w, none, none]) (fun H' A' fr => fr.list R₂ hg₂) (fun q ξ y H₃ A₃ S₃ R₃ fr₃ => ⟨_, rfl, ?_⟩) none fun y H₃ g₃ => ⟨rfl, ag (h _ _ ?_)⟩⟩
  ·refine af <| aq <| R₃.call rfl (fun ξ => rfl) <| aa <| ad rfl <| aa <| aF <| aa <| ok_C <| ae ⟨lim1, ae <| (mW (R₃.ext .app) (r := q.2) (ts := [.beyond]) aj).mono fun ξ H₅ g => ⟨rfl, ag ⟨.inl rfl, ⟨some (.int ((q.2.val : Nat) : Int)), rfl⟩, ?_⟩⟩⟩
   exact (Go.start .app g).conv (fun τ ξ h t ht => by rw [List.mem_singleton.mp ht]; exact h) fun h => h _ (List.mem_singleton.mpr rfl)
  ·obtain ⟨A₄, S₄, R₄, fr₄, d₄⟩ := g₃
   exact ⟨A₄, S₄, R₄, fr₂.trans fr₄, d₂.trans d₄ (fun τ ξ h => ⟨⟨h.1, h.2.1⟩, h.2.2⟩) fun a b => ⟨a.1, a.2, b⟩⟩
 have cond : ∀ (B : Bool → MH → Prop), B c H₁ → Ok (bOr (bAnd (bV (e2 mEq (eLoc 1) (eC (.str "go")))) (bAnd (bV (e2 mNe (e2 ah (eLoc 3) (eC (.int 0))) (eC (.str "fn")))) (eC true))) (bOr (bV (e2 mEq (e2 ah (eLoc 3) (eC (.int 0))) (eC (.str "face")))) (eC false)) [some (.ref F.fl), some (.str opw), u2, some (.tup (.str fnw :: rest)), some (.ref lr), some (.ref lg), u6, none, none, none]) H₁ B := by
  intro B hB
  have face : (bface = c) → Ok (bOr (bV (e2 mEq (e2 ah (eLoc 3) (eC (.int 0))) (eC (.str "face")))) (eC false) [some (.ref F.fl), some (.str opw), u2, some (.tup (.str fnw :: rest)), some (.ref lr), some (.ref lg), u6, none, none, none]) H₁ B := fun q => by
   subst q
   refine iU <| aR <| ak <| ak <| ad rfl <| ok_C <| bB (i := 0) (by decide) rfl <| ok_C <| bx w.kfn or ⟨_, rfl, ?_⟩
   rw [w.e4]
   cases bface
   ·exact c9 hB
   ·exact hB
  refine iU <| iB <| aR <| ak <| ad rfl <| ok_C <| bx w.kop pI ⟨_, rfl, ?_⟩
  rw [w.e2]
  cases bgo with
  | false => exact face (by simpa using hc)
  | true =>
   refine iB <| aR <| ak <| ak <| ad rfl <| ok_C <| bB (i := 0) (by decide) rfl <| ok_C <| bx w.kfn iE ⟨_, rfl, ?_⟩
   rw [w.e3]
   cases bfn with
   | true => exact face (by simpa using hc)
   | false =>
    refine c9 ?_
    obtain rfl : c = true := by simpa using hc.symm
    exact hB
 refine af <| aD <| cond _ ?_
 cases c with
 | true =>
  refine af <| aq <| kH R₁ (r := 3) rfl (fun Q q => ak <| ad rfl <| ok_C <| bB (i := 1) (by decide) (hv rfl) q) fun ξ H₂ g₂ => ⟨rfl, ag ⟨rfl, ?_⟩⟩
  obtain ⟨A₂, S₂, R₂, fr₂, d₂⟩ := g₂
  exact last H₂ A₂ S₂ R₂ (fr₁.trans fr₂) (d₁.trans d₂ (fun τ ξ h => ⟨h.1, h.2 rfl⟩) fun a b => ⟨a, fun ξ => b⟩)
 | false =>
  exact ag ⟨rfl, last H₁ A₁ S₁ R₁ fr₁ (d₁.conv (fun τ ξ h => h.1) fun h => ⟨h, fun e => by cases e⟩)⟩
noncomputable def pM (bcall : Bool) (opw : Str) (called : V) (l67 lr : Nat) : V := bif bcall then .tup [.str opw, .ref l67, called, .ref lr] else .tup [.str opw, called, .ref lr]
theorem bN (R : Flow F H A S) (TF : TFlow F G H A W) (hW : W.Ok) {r : Bool → Fin 8} {opw fnw nm : Str} {bcall bgo bfn bface c k : Bool} (w : Wd opw fnw bcall bgo bfn bface) {rest : List V} {l67 lr : Nat} (hr : H[lr]? = some (.list [regV (r false), regV (r true)]))
  (h67 : bcall = true → H[l67]? = some (.list [.int 6, .int 7])) (hc : ((bgo && !bfn) || bface) = c) (hv : c = true → rest[0]? = some (regV 3)) (hk : (bfn && !bgo) = true → rest[0]? = some (.str nm)) (hkk : ((bfn && !bgo) && decide (nm = "k")) = k) :
  Ok (bv [.ref F.fl, .str opw, pM bcall opw (.tup (.str fnw :: rest)) l67 lr]) H fun ξ H' => Go F (fun τ => if k then Fol W r (cz bcall) τ else Unk r c (cz bcall) τ) H A S H' := by
 refine a9 rfl ?_
 refine af <| en <| bM <| aR <| ak <| ad rfl <| ok_C <| bx w.kop gJ ⟨_, rfl, ?_⟩
 rw [w.e1]
 have mid : ∀ (lg : Nat) (H₁ : MH), Ext H H₁ → H₁[lg]? = some (.list ((cz bcall).map fun q => V.int ((q.2.val : Nat) : Int))) → Ok (ai (sSet 6 (eIf (bAnd (bV (e2 mEq (e2 ah (eLoc 3) (eC (.int 0))) (eC (.str "fn")))) (bAnd (bV (e2 mNe (eLoc 1) (eC (.str "go")))) (eC true))) (aw eM mGet (e1 (aG 204 "summaries") (eLoc 0)) (ac (e2 ah (eLoc 3) (eC (.int 1))) (lNil))) (eC .none)))
 (ai (sIf (bV (e2 (mIs true) (eLoc 6) (eC .none)))
  (ai (aL (aw (au 204 "follow") br (eLoc 0) (ac (eLoc 6) (ac (eLoc 4) (ac (eLoc 5) (lNil))))))
 (ai (iR)
 (sNil)))
  (sNil))
 (ai (aL (aw (au 204 "leak") aA (eLoc 0) (ac (aw (au 204 "tokens_of_all") aH (eLoc 0) (ac (eLoc 4) (lNil))) (lNil))))
 (ai (sIf (bOr (bAnd (bV (e2 mEq (eLoc 1) (eC (.str "go")))) (bAnd (bV (e2 mNe (e2 ah (eLoc 3) (eC (.int 0))) (eC (.str "fn")))) (eC true))) (bOr (bV (e2 mEq (e2 ah (eLoc 3) (eC (.int 0))) (eC (.str "face")))) (eC false)))
  (ai (aL (aw (au 204 "leak") aA (eLoc 0) (ac (aw (au 204 "tokens_of") az (eLoc 0) (ac (e2 ah (eLoc 3) (eC (.int 1))) (lNil))) (lNil))))
 (sNil))
  (sNil))
 (ai (sFor (itV (eLoc 5)) (aT 7)
  (ai (aL (aw (au 204 "give") aX (eLoc 0) (ac (eLoc 7) (ac (am (ac (eC (.tup [.str "beyond"])) (lNil))) (lNil)))))
 (sNil)))
 (sNil))))) [some (.ref F.fl), some (.str opw), some (pM bcall opw (.tup (.str fnw :: rest)) l67 lr), some (.tup (.str fnw :: rest)), some (.ref lr), some (.ref lg), none, none, none, none]) H₁
   fun x H' => (∃ v, x.1 = .ret v ∧ Go F (fun τ => if k then Fol W r (cz bcall) τ else Unk r c (cz bcall) τ) H A S H') ∨ (x.1 = .next ∧ Go F (fun τ => if k then Fol W r (cz bcall) τ else Unk r c (cz bcall) τ) H A S H') := by
  intro lg H₁ x hg
  have R₁ := R.ext x
  have TF₁ := TF.ext x
  have unk : k = false → Ok (ai (sIf (bV (e2 (mIs true) (eLoc 6) (eC .none)))
  (ai (aL (aw (au 204 "follow") br (eLoc 0) (ac (eLoc 6) (ac (eLoc 4) (ac (eLoc 5) (lNil))))))
 (ai (iR)
 (sNil)))
  (sNil))
 (ai (aL (aw (au 204 "leak") aA (eLoc 0) (ac (aw (au 204 "tokens_of_all") aH (eLoc 0) (ac (eLoc 4) (lNil))) (lNil))))
 (ai (sIf (bOr (bAnd (bV (e2 mEq (eLoc 1) (eC (.str "go")))) (bAnd (bV (e2 mNe (e2 ah (eLoc 3) (eC (.int 0))) (eC (.str "fn")))) (eC true))) (bOr (bV (e2 mEq (e2 ah (eLoc 3) (eC (.int 0))) (eC (.str "face")))) (eC false)))
  (ai (aL (aw (au 204 "leak") aA (eLoc 0) (ac (aw (au 204 "tokens_of") az (eLoc 0) (ac (e2 ah (eLoc 3) (eC (.int 1))) (lNil))) (lNil))))
 (sNil))
  (sNil))
 (ai (sFor (itV (eLoc 5)) (aT 7)
  (ai (aL (aw (au 204 "give") aX (eLoc 0) (ac (eLoc 7) (ac (am (ac (eC (.tup [.str "beyond"])) (lNil))) (lNil)))))
 (sNil)))
 (sNil)))) [some (.ref F.fl), some (.str opw), some (pM bcall opw (.tup (.str fnw :: rest)) l67 lr), some (.tup (.str fnw :: rest)), some (.ref lr), some (.ref lg), some .none, none, none, none]) H₁
   fun x H' => (∃ v, x.1 = .ret v ∧ Go F (fun τ => if k then Fol W r (cz bcall) τ else Unk r c (cz bcall) τ) H A S H') ∨ (x.1 = .next ∧ Go F (fun τ => if k then Fol W r (cz bcall) τ else Unk r c (cz bcall) τ) H A S H') := by
   intro hk
   subst hk
   refine af <| aD <| aR <| ak <| ad rfl <| ok_C <| kM (t := true) rfl ⟨_, rfl, ag ⟨rfl, ?_⟩⟩
   exact pq R₁ w (x.get hr) hg hc hv fun lc H' g => .inr ⟨rfl, g.start x⟩
  have none_ : (bfn && !bgo) = false → k = false := fun q => by rw [q] at hkk; exact hkk.symm
  refine af <| aO <| bM <| iB <| aR <| ak <| ak <| ad rfl <| ok_C <| bB (i := 0) (by decide) rfl <| ok_C <| bx w.kfn iE ⟨_, rfl, ?_⟩
  rw [w.e3]
  cases bfn with
  | false => exact ok_C ⟨rfl, unk (none_ rfl)⟩
  | true =>
   refine iB <| aR <| ak <| ad rfl <| ok_C <| bx (neg := true) w.kop pI ⟨_, rfl, ?_⟩
   rw [w.e2]
   cases bgo with
   | true => exact ok_C ⟨rfl, unk (none_ rfl)⟩
   | false =>
    refine c9 ?_
    refine bn <| R₁.at_summaries rfl <| b8 TF₁.rep.sm <| aa <| ak <| ad rfl <| ok_C <| bB (i := 1) (by decide) (hk rfl) <| ae <| qc TF₁.rep.sm (p := .str nm) rfl rfl ⟨rfl, ?_⟩
    by_cases hn : nm = "k"
    ·have e : dget [(Key.p (.str "k"), V.ref G.su)] (.p (.str nm)) = some (.ref G.su) := by rw [hn]; rfl
     rw [e]
     obtain rfl : k = true := by rw [← hkk, hn]; rfl
     refine aK <| aD <| aR <| ak <| ad rfl <| ok_C <| kM (t := false) rfl ⟨_, rfl, ?_⟩
     refine af <| aq <| R₁.call rfl (fun ξ => rfl) <| aa <| ad rfl <| aa <| ad rfl <| aa <| ad rfl <| ae <| (lW R₁ TF₁ hW (x.get hr) (res := cz bcall) (by cases bcall <;> rfl) hg).mono fun ξ H₂ g => ⟨rfl, aK <| fT <| .inl ⟨_, rfl, g.start x⟩⟩
    ·have e : dget [(Key.p (.str "k"), V.ref G.su)] (.p (.str nm)) = none := by
      unfold dget
      simp only [List.find?_cons, Key.p.injEq, Prim.str.injEq]
      rw [decide_eq_false (fun q => hn q.symm)]
      rfl
     rw [e]
     exact unk (by rw [← hkk, decide_eq_false hn]; rfl)
 cases bcall with
 | true =>
  refine aB <| aa <| ak <| ad rfl <| ok_C <| bB (i := 2) (by decide) rfl <| aa <| ak <| ad rfl <| ok_C <| bB (i := 3) (by decide) rfl <| ae ⟨lim2, _, rfl, rfl, ?_⟩
  refine af <| aO <| bM <| aR <| ak <| ad rfl <| ok_C <| bx w.kop gJ ⟨_, rfl, ?_⟩
  rw [w.e1]
  exact aC <| aa <| ak <| ad rfl <| ok_C <| bB (i := 1) (by decide) rfl <| ae <| jX (h67 rfl) lim2 ⟨rfl, mid H.length _ .app aj⟩
 | false =>
  refine aB <| aa <| ak <| ad rfl <| ok_C <| bB (i := 1) (by decide) rfl <| aa <| ak <| ad rfl <| ok_C <| bB (i := 2) (by decide) rfl <| ae ⟨lim2, _, rfl, rfl, ?_⟩
  refine af <| aO <| bM <| aR <| ak <| ad rfl <| ok_C <| bx w.kop gJ ⟨_, rfl, ?_⟩
  rw [w.e1]
  exact aF <| ae ⟨Nat.zero_le _, rfl, mid H.length _ .app aj⟩
end
theorem jN (k : Key) : ∀ l : List Key, (insK k l).length = l.length + 1
 | [] => rfl
 | a :: r => by rw [fZ]; split <;> simp [jN k r]
theorem gp : ∀ l : List Key, (bG l).length = l.length
 | [] => rfl
 | a :: r => by rw [ga]; rw [jN, gp r]; rfl
theorem nQ {H : MH} {P : V → MH → Prop} {l : Nat} {es : List (Key × V)} {ks : List Key} (x : IsD H l es) (hk : es.map (·.1) = ks) (ho : sOk ks = true) (h : P (.ref H.length) (H ++ [.list ((bG ks).map .ofKey)])) : Ok (aV [.ref l]) H P := by
 obtain ⟨n, e⟩ := x
 refine ⟨_, _, ?_, h⟩
 unfold aV jA
 simp only [e, hk, ho, if_true]
noncomputable def gr : Option Bool → Inr
 | some b => .o b
 | none => .neg
theorem jj (j : Option Bool) : (gr j).int = ii j := by cases j <;> rfl
noncomputable def mr (W : Told) (b : Bool) : Prop := (∃ a, some b ∈ W.t a) ∨ (Inr.o b, none) ∈ W.kept
noncomputable def Lit (W : Told) (r : Bool → Fin 8) (τ : St) : Prop := Pt τ (opX r τ) (.site .d) ∧ Fol W r [] τ ∧ ∀ b, mr W b → Lk τ fun t => τ (.held (r b) t)
noncomputable def LitU (r : Bool → Fin 8) (τ : St) : Prop := Pt τ (opX r τ) (.site .d) ∧ Lk τ (opX r τ)
section
variable {F : Fix} {G : TFix} {W : Told} {H H' H'' : MH} {A A' A'' : At} {S S' : St} {P : V → MH → Prop} {B : Bool → MH → Prop} {T : Fl × Loc → MH → Prop} {loc : Loc}
noncomputable def atK (b : Bool) : Key := .p (.int (oi b))
theorem qu (a b : Bool) (h : atK a = atK b) : a = b := by
 simp only [atK, Key.p.injEq, Prim.int.injEq] at h
 exact kS h
theorem qA : (tabT W G).map (·.1) = (([false, true] : List Bool).filter fun b => !(W.t b).isEmpty).map atK := by
 unfold tabT
 rw [List.map_map]
 rfl
theorem tabT_get {b : Bool} (h : W.t b ≠ []) : dget (tabT W G) (.p (.int (oi b))) = some (.ref (G.t b)) := by
 have h1 : (W.t b).isEmpty = false := by simpa using h
 cases b
 ·unfold tabT
  simp [h1, dget]
 ·unfold tabT
  by_cases hc : W.t false = []
  ·simp [h1, hc, dget]
  ·have : (W.t false).isEmpty = false := by simpa using hc
   simp [h1, this, dget, oi]
theorem rK : allP (tabT W G) = true := by
 unfold tabT allP
 simp [Key.isP]
theorem flat3 {α β : Type} {f : α → List β} (h : ∀ a, (f a).length ≤ 3) (l : List α) : (l.flatMap f).length ≤ 3 * l.length := by
 induction l with
 | nil => exact Nat.zero_le _
 | cons a l ih => simp only [List.flatMap_cons, List.length_append, List.length_cons]; have := h a; omega
theorem pf {sm : Nat} (r : TRep G sm H W) (hW : W.Ok) (h4 : loc[4]? = some (some (.ref G.su))) (h : ∀ (l : Nat) (js : List (Option Bool)) (H' : MH), Ext H H' → H'[l]? = some (.list (js.map fun j => V.int (ii j))) → js.length ≤ 6 → (∀ j, j ∈ js ↔ ∃ a, j ∈ W.t a) → P (.ref l) H') :
  Ok (cQ (itV (eL aV (ac (e1 (aG 54 "told") (eLoc 4)) (lNil)))) [none, none, none, some 4] (aT 1) (eC true) (cIn (itV (e2 ah (e1 (aG 54 "told") (eLoc 3)) (eLoc 1))) (aT 2) (eC true) (cS (eLoc 2))) loc) H P := by
 have hbs : (([false, true] : List Bool).filter fun b => !(W.t b).isEmpty).length ≤ 2 := List.length_filter_le _ _
 have hnd : (([false, true] : List Bool).filter fun b => !(W.t b).isEmpty).Nodup := List.Nodup.sublist (List.filter_sublist) (by decide)
 have hmb : ∀ b, b ∈ (([false, true] : List Bool).filter fun b => !(W.t b).isEmpty) ↔ W.t b ≠ [] := fun b => by cases b <;> simp
 have hk := qA (W := W) (G := G)
 generalize (([false, true] : List Bool).filter fun b => !(W.t b).isEmpty) = bs at hbs hnd hmb hk
 have so : sOk (bs.map atK) = true := mO (by rw [List.length_map]; omega) (dA qu hnd) fun a ha b hb => by
  obtain ⟨x, ξ, rfl⟩ := List.mem_map.mp ha
  obtain ⟨y, ξ, rfl⟩ := List.mem_map.mp hb
  rfl
 obtain ⟨as, ea, ma⟩ := iK qu bs
 have las : as.length ≤ 2 := by
  have := congrArg List.length ea
  rw [gp, List.length_map, List.length_map] at this
  omega
 refine hK <| bK <| aC <| aa <| cA <| ad h4 <| bE r.su r.sd rfl rfl <| ae <| nQ r.tl hk so ?_
 have eo : (as.map atK).map V.ofKey = as.map fun b => V.int (oi b) := by rw [List.map_map]; rfl
 rw [ea, eo]
 have x₁ : Ext H (H ++ [MObj.list (as.map fun b => V.int (oi b))]) := .app
 have r₁ : TRep G sm (H ++ [MObj.list (as.map fun b => V.int (oi b))]) W := r.keep fun i m ξ e => x₁.get e
 have gl := aj (H := H) (m := MObj.list (as.map fun b => V.int (oi b)))
 generalize hH1 : H ++ [MObj.list (as.map fun b => V.int (oi b))] = H₁ at x₁ r₁ gl
 refine bh gl ?_
 have hcap : fp [none, none, none, some 4] loc = [none, none, none, some (.ref G.su)] := by unfold fp; simp [h4]
 show Ok (cu (fun h => h[H.length]? = some (.list (as.map fun b => V.int (oi b)))) _ _ _ (as.map fun b => V.int (oi b)) _) _ _
 rw [hcap]
 have l3 : ∀ b, (W.t b).length ≤ 3 := fun b => i5 (hW.t b)
 refine jv (mk := fun y : Option V × Option V => [none, y.1, y.2, some (.ref G.su)]) (fun ds H' => H' = H₁ ++ [.list ((ds.flatMap W.t).map fun j => V.int (ii j))]) (fun ds H' q => by rw [q]; exact Ext.get .app gl) (fun ds b rs y H' hd q => ?_) (none, none) rfl fun y H' q => ?_
 ·subst q
  obtain ⟨w1, w2⟩ := y
  have hb : W.t b ≠ [] := (hmb b).mp ((ma b).mp (by rw [hd]; simp))
  have lds := flat3 l3 ds
  have ld2 : ds.length ≤ 2 := by rw [hd, List.length_append] at las; omega
  refine ⟨[none, some (.int (oi b)), w2, some (.ref G.su)], rfl, c9 ?_⟩
  have r₂ : TRep G sm (H₁ ++ [.list ((ds.flatMap W.t).map fun j => V.int (ii j))]) W := r₁.keep fun i m ξ e => Ext.get .app e
  obtain ⟨n, hn⟩ := r₁.t b hb
  refine .bnd <| bK <| ak <| cA <| ad rfl <| bE r₂.su r₂.sd rfl rfl <| ad rfl <| bw r₂.tl (p := .int (oi b)) rfl rK (tabT_get hb) <| dE (Ext.get .app hn) ?_
  have ei : (((W.t b).map tdK).map ent).map (fun e => V.ofKey e.1) = (W.t b).map fun j => V.int (ii j) := by simp only [List.map_map]; rfl
  show Ok (cu _ _ _ _ ((((W.t b).map tdK).map ent).map fun e => V.ofKey e.1) _) _ _
  rw [ei]
  refine jw (α := Option Bool) (β := Option V) (mk := fun w => [none, some (.int (oi b)), w, some (.ref G.su)]) (p := fun ξ => true) (em := fun j => V.int (ii j)) (fun H' x => x.get hn) (W.t b) _ w2 (by rw [List.length_map]; have := l3 b; omega) (fun j ξ y H' x => ⟨some (.int (ii j)), rfl, fun B hB => c9 hB, fun ξ P hP => ad rfl hP⟩) fun y' => ⟨⟨(some (.int (oi b)), y'), rfl⟩, ?_⟩
  have e1 : (W.t b).filter (fun ξ => true) = W.t b := List.filter_eq_self.mpr fun ξ ξ => rfl
  have e2 : (ds ++ [b]).flatMap W.t = ds.flatMap W.t ++ W.t b := by simp
  rw [e1, e2, List.map_append]
 ·subst q
  have lds := flat3 l3 as
  refine h H₁.length (as.flatMap W.t) _ (x₁.trans .app) aj (by omega) fun j => ?_
  rw [List.mem_flatMap]
  constructor
  ·rintro ⟨a, ξ, q⟩; exact ⟨a, q⟩
  ·rintro ⟨a, q⟩
   exact ⟨a, (ma a).mpr ((hmb a).mpr fun e => by rw [e] at q; cases q), q⟩
theorem iX (R : Flow F H A S) (TF : TFlow F G H A W) (hW : W.Ok) {r : Bool → Fin 8} {lr : Nat} {k : Bool} {nm : Str} (hn : decide (nm = "k") = k) (hr : H[lr]? = some (.list [regV (r false), regV (r true)])) :
  Ok (cf [.ref F.fl, .str nm, .ref lr, .str "d"]) H fun ξ H' => Go F (fun τ => if k then Lit W r τ else LitU r τ) H A S H' := by
 have x₀ : Ext H (H ++ [MObj.list [(Tk.site .d).v]]) := .app
 refine a9 rfl <| af <| aq <| R.call rfl (fun ξ => rfl) <| aa <| aF <| aa <| aB <| aa <| ok_C <| aa <| ad rfl <| ae ⟨lim2, ae ⟨lim1, ?_⟩⟩
 show Ok _ (H ++ [MObj.list [(Tk.site .d).v]]) _
 refine aa <| (R.ext x₀).call rfl (fun ξ => rfl) <| aa <| ad rfl <| ae <| (qf (R.ext x₀) (x₀.get hr)).mono fun v H₁ g => ?_
 obtain ⟨l, us, rfl, hl, hlen, hu, x₁, ξ⟩ := g
 refine ae <| (ok_put (R.ext (x₀.trans x₁)) (tg := [.site .d]) (x₁.get aj) hl (by omega)).mono fun ξ H₂ g => ⟨rfl, ?_⟩
 have hX : (fun t => t ∈ us) = opX r S := funext fun t => propext (hu t)
 rw [hX] at g
 obtain ⟨A₂, S₂, R₂, fr₂, d₂⟩ := Go.start (x₀.trans x₁) g
 have dP : Doing (fun τ => Pt τ (opX r τ) (.site .d)) S S₂ := d₂.conv (fun τ hs h g hg => by rw [List.mem_singleton.mp hg]; exact h.anti fun t => opX.mono hs) fun h => h _ (List.mem_singleton.mpr rfl)
 have TF₂ := TF.fr fr₂
 have hr₂ := fr₂.list R hr
 refine af <| aO <| bn <| R₂.at_summaries rfl <| b8 TF₂.rep.sm <| aa <| ad rfl <| ae <| qc TF₂.rep.sm (p := .str nm) rfl rfl ⟨rfl, ?_⟩
 cases k with
 | false =>
  have e : dget [(Key.p (.str "k"), V.ref G.su)] (.p (.str nm)) = none := by
   have hn' : ¬ nm = "k" := of_decide_eq_false hn
   unfold dget
   simp only [List.find?_cons, Key.p.injEq, Prim.str.injEq]
   rw [decide_eq_false (fun q => hn' q.symm)]
   rfl
  rw [e]
  refine aK <| aD <| aR <| ak <| ad rfl <| ok_C <| kM (t := true) rfl ⟨_, rfl, ?_⟩
  refine af <| aq <| kK R₂ hr₂ rfl rfl fun ξ H₃ g₃ => ⟨rfl, aK <| fT <| .inl ⟨_, rfl, ?_⟩⟩
  obtain ⟨A₃, S₃, R₃, fr₃, d₃⟩ := g₃
  exact ⟨A₃, S₃, R₃, fr₂.trans fr₃, dP.and d₃⟩
 | true =>
  obtain rfl : nm = "k" := of_decide_eq_true hn
  have e : dget [(Key.p (.str "k"), V.ref G.su)] (.p (.str "k")) = some (.ref G.su) := rfl
  rw [e]
  refine af <| aD <| aR <| ak <| ad rfl <| ok_C <| kM (t := false) rfl ⟨_, rfl, ag ⟨rfl, ?_⟩⟩
  refine af <| aq <| R₂.call rfl (fun ξ => rfl) <| aa <| ad rfl <| aa <| ad rfl <| aa <| aF <| ae ⟨Nat.zero_le _, ae <| (lW (R₂.ext .app) (TF₂.ext .app) hW (Ext.app.get hr₂) (res := []) rfl aj).mono fun ξ H₃ g => ⟨rfl, ?_⟩⟩
  obtain ⟨A₃, S₃, R₃, fr₃, d₃⟩ := Go.start .app g
  have TF₃ := TF₂.fr fr₃
  have hr₃ := fr₃.list R₂ hr₂
  refine af <| aO <| pf TF₃.rep hW rfl fun l₄ js H₄ x₄ hl₄ ljs mjs => ⟨rfl, ?_⟩
  have TF₄ := TF₃.ext x₄
  have hr₄ := x₄.get hr₃
  obtain ⟨ps, ep, mp⟩ := iK jZ W.kept
  have lps : ps.length ≤ 12 := by
   have := congrArg List.length ep
   rw [gp, List.length_map, List.length_map] at this
   have := mv hW.kept
   omega
  refine af <| aO <| ak <| ad rfl <| dF (α := Inr × Option Bool) (β := Option V × Option V) (xs := ps) (val := fun p => V.tup [.int p.1.int, .int (lo p.2)]) (p := fun p => p.2.isNone) (em := fun p => V.int p.1.int) (mk := fun y => [none, y.1, y.2, none, some (.ref lr)]) (y := (none, none)) (by omega) rfl <|
   bK <| aC <| aa <| cA <| ad rfl <| bE TF₄.rep.su TF₄.rep.sd rfl rfl <| ae <| gj TF₄.rep.kp (nB hW.kept) ?_
  rw [ep, l8]
  have x₅ : Ext H₄ (H₄ ++ [MObj.list (ps.map fun p => V.tup [.int p.1.int, .int (lo p.2)])]) := .app
  refine bP aj fun s hs hok => ⟨hs, hok, fun p ξ y H' x => ⟨(some (.int p.1.int), some (.int (lo p.2))), rfl, fun B hB => ?_, fun ξ P hP => ad rfl hP⟩, ?_⟩
  ·refine aR <| ak <| ad rfl <| aC <| aa <| ad rfl <| ae <| cU ((x₅.trans x).get hr₄) (show 2 ≤ lim from lim2) <| ok_ge ⟨_, rfl, ?_⟩
   obtain ⟨i, o⟩ := p
   rcases o with _ | (_ | _) <;> exact hB
  ·have x₆ := x₅.trans (Ext.app (H := H₄ ++ [MObj.list (ps.map fun p => V.tup [.int p.1.int, .int (lo p.2)])]) (t := [.list ((ps.filter fun p => p.2.isNone).map fun p => V.int p.1.int)]))
   have lfp : (ps.filter fun p => p.2.isNone).length ≤ 12 := Nat.le_trans (List.length_filter_le _ _) lps
   refine fA (x₆.get hl₄) aj (by simp only [List.length_map]; exact Nat.le_trans (show js.length + (ps.filter fun p => p.2.isNone).length ≤ 100 by omega) (by decide)) ⟨rfl, ?_⟩
   have eL : (js.map fun j => V.int (ii j)) ++ ((ps.filter fun p => p.2.isNone).map fun p => V.int p.1.int) = (js.map gr ++ (ps.filter fun p => p.2.isNone).map (·.1)).map fun i => V.int i.int := by
    rw [List.map_append, List.map_map, List.map_map]
    congr 1
    exact List.map_congr_left fun j ξ => by show _ = V.int (gr j).int; rw [jj]
   rw [eL]
   have x₇ := x₆.trans (Ext.app (H := H₄ ++ [MObj.list (ps.map fun p => V.tup [.int p.1.int, .int (lo p.2)])] ++ [.list ((ps.filter fun p => p.2.isNone).map fun p => V.int p.1.int)]) (t := [.list ((js.map gr ++ (ps.filter fun p => p.2.isNone).map (·.1)).map fun i => V.int i.int)]))
   have gl := aj (H := H₄ ++ [MObj.list (ps.map fun p => V.tup [.int p.1.int, .int (lo p.2)])] ++ [.list ((ps.filter fun p => p.2.isNone).map fun p => V.int p.1.int)]) (m := .list ((js.map gr ++ (ps.filter fun p => p.2.isNone).map (·.1)).map fun i => V.int i.int))
   have ml : ∀ b, Inr.o b ∈ (js.map gr ++ (ps.filter fun p => p.2.isNone).map (·.1)) ↔ mr W b := fun b => by
    rw [List.mem_append]
    refine or_congr ?_ ?_
    ·rw [List.mem_map]
     constructor
     ·rintro ⟨j, hj, e⟩
      cases j with
      | none => cases e
      | some b' => cases e; exact (mjs _).mp hj
     ·intro q
      exact ⟨some b, (mjs _).mpr q, rfl⟩
    ·rw [List.mem_map]
     constructor
     ·rintro ⟨⟨i, o⟩, hj, e⟩
      obtain ⟨h1, h2⟩ := List.mem_filter.mp hj
      cases o with
      | some ξ => cases h2
      | none => obtain rfl : i = .o b := e; exact (mp _).mp h1
     ·intro q
      exact ⟨(.o b, none), List.mem_filter.mpr ⟨(mp _).mpr q, rfl⟩, rfl⟩
   generalize js.map gr ++ (ps.filter fun p => p.2.isNone).map (·.1) = L at x₇ gl ml ⊢
   have x₈ := x₄.trans x₇
   have R₈ := R₃.ext x₈
   have hr₈ := x₈.get hr₃
   refine af <| aS <| ad rfl ⟨rfl, gl, R₈.each (α := Inr) (β := Option V) (C := fun i τ => ∀ b, i = .o b → Lk τ fun t => τ (.held (r b) t)) (mk := fun w => [some (.ref F.fl), some (.str "k"), some (.ref lr), some (.str "d"), some (.ref G.su), some (.ref _), w, none, none]) (fun H' A' fr => fr.list R₈ gl) (fun i ξ y H' A' S' R' fr => ⟨_, rfl, ?_⟩) none fun y H' g => ⟨rfl, ag (.inr ⟨rfl, ?_⟩)⟩⟩
   ·have hr' := fr.list R₈ hr₈
    refine af <| aD <| nZ <| ok_C <| ad rfl ?_
    cases i with
    | o b =>
     refine lU <| .inr ⟨by cases b <;> rfl, aC <| aa <| ad rfl <| ae <| cU hr' (show 2 ≤ lim from lim2) <| kF ⟨true, by cases b <;> rfl, ?_⟩⟩
     refine af <| aq <| kH R' (r := r b) rfl (fun Q q => ak <| ad rfl <| ad rfl ?_) fun ξ H'' g => ⟨rfl, ag ⟨rfl, ag ⟨.inl rfl, ⟨some (.int (oi b)), rfl⟩, g.conv (fun τ ξ h => h b rfl) fun h b' e => by cases e; exact h⟩⟩⟩
     cases b
     ·exact b7 (i := 0) hr' (by decide) rfl q
     ·exact b7 (i := 1) hr' (by decide) rfl q
    | neg =>
     exact lU <| .inl ⟨rfl, ag ⟨rfl, ag ⟨.inl rfl, ⟨some (.int (-1)), rfl⟩, .skip R' fun b e => by cases e⟩⟩⟩
    | two =>
     exact lU <| .inr ⟨rfl, aC <| aa <| ad rfl <| ae <| cU hr' (show 2 ≤ lim from lim2) <| kF ⟨false, rfl, ag ⟨rfl, ag ⟨.inl rfl, ⟨some (.int 2), rfl⟩, .skip R' fun b e => by cases e⟩⟩⟩⟩
   ·obtain ⟨A₉, S₉, R₉, fr₉, d₉⟩ := g.start x₈
    refine ⟨A₉, S₉, R₉, fr₂.trans (fr₃.trans fr₉), ?_⟩
    exact dP.trans (d₃.and d₉) (E := Lit W r) (fun τ ξ h => ⟨h.1, h.2.1, fun i hi b e => by subst e; exact h.2.2 b ((ml b).mp hi)⟩) fun a b => ⟨a, b.1, fun b' hb' => b.2 _ ((ml b').mpr hb') b' rfl⟩
end
set_option genInjectivity false in
structure BFix where
 bk : Nat
 hd : Nat
 is : Nat
 at_ : Cont → Nat
noncomputable def fv (f : Fact) : V := V.ofKey f.key
structure Book (K : BFix) (H : MH) (S : St) : Prop where
 bk : IsD H K.bk [(.p (.str "held"), .ref K.hd), (.p (.str "gone"), .ref (K.at_ .gone)), (.p (.str "leaks"), .ref (K.at_ .leaks)), (.p (.str "kept"), .ref (K.at_ .kept)), (.p (.str "inside"), .ref K.is)]
 hd : IsD H K.hd ((List.finRange 8).map fun r => (.p (Cont.held r).nm, .ref (K.at_ (.held r))))
 is : IsD H K.is (([.a, .b, .c, .d] : List Site).map fun s => (.p (Cont.ins s).nm, .ref (K.at_ (.ins s))))
 set : ∀ c, ∃ fs : List Fact, H[K.at_ c]? = some (.list (fs.map fv)) ∧ fs.Nodup ∧ ∀ f, f ∈ fs ↔ S f ∧ f.cont = c
 inj : ∀ c c', K.at_ c = K.at_ c' → c = c'
noncomputable def Free (K : BFix) (i : Nat) : Prop := ∀ c, i ≠ K.at_ c
noncomputable def FrB (K : BFix) (H H' : MH) : Prop := H.length ≤ H'.length ∧ ∀ i, i < H.length → Free K i → H'[i]? = H[i]?
inductive GoB (K : BFix) (C : St → Prop) (H : MH) (S : St) (H' : MH) : Prop where
 | mk (S' : St) (h0 : Book K H' S') (h1 : FrB K H H') (h2 : Doing C S S') : GoB K C H S H'
section
variable {K : BFix} {H H' H'' : MH} {S S' : St} {P : V → MH → Prop} {B : Bool → MH → Prop} {T : Fl × Loc → MH → Prop} {loc : Loc}
theorem FrB.refl : FrB K H H := ⟨Nat.le_refl _, fun ξ ξ ξ => rfl⟩
theorem FrB.trans (a : FrB K H H') (b : FrB K H' H'') : FrB K H H'' := ⟨Nat.le_trans a.1 b.1, fun i h n => (b.2 i (Nat.lt_of_lt_of_le h a.1) n).trans (a.2 i h n)⟩
theorem Ext.frB (a : Ext H H') : FrB K H H' := ⟨a.1, fun i h ξ => a.2 i h⟩
theorem FrB.get (a : FrB K H H') {i : Nat} {m : MObj} (e : H[i]? = some m) (n : Free K i) : H'[i]? = some m := by rw [a.2 i (bA e) n]; exact e
theorem Book.at_lt (R : Book K H S) (c : Cont) : K.at_ c < H.length := by obtain ⟨fs, h, ξ⟩ := R.set c; exact bA h
theorem Book.new_free (R : Book K H S) {i : Nat} (h : H.length ≤ i) : Free K i := fun c q => by have := R.at_lt c; omega
theorem Book.dict_free (R : Book K H S) {i : Nat} {es : List (Key × V)} (h : IsD H i es) : Free K i := fun c q => by
 obtain ⟨fs, h', ξ⟩ := R.set c
 obtain ⟨n, h⟩ := h
 rw [q, h'] at h
 cases h
theorem Book.ext (R : Book K H S) (x : Ext H H') : Book K H' S := {
 bk := x.isD R.bk
 hd := x.isD R.hd
 is := x.isD R.is
 set := fun c => by obtain ⟨fs, h, r⟩ := R.set c; exact ⟨fs, x.get h, r⟩
 inj := R.inj }
theorem GoB.start {C : St → Prop} {H₀ : MH} (x : Ext H₀ H) (g : GoB K C H S H') : GoB K C H₀ S H' := by obtain ⟨S', a, b, c⟩ := g; exact ⟨S', a, x.frB.trans b, c⟩
theorem GoB.conv {C D : St → Prop} (g : GoB K C H S H') (h1 : ∀ τ : St, (∀ f, S f → τ f) → D τ → C τ) (h2 : C S → D S) : GoB K D H S H' := by obtain ⟨S', a, b, c⟩ := g; exact ⟨S', a, b, c.conv h1 h2⟩
theorem GoB.skip (R : Book K H S) {C : St → Prop} (h : C S) : GoB K C H S H := ⟨S, R, .refl, .refl h⟩
theorem Book.each {α β : Type} {xs : List α} {val : α → V} {C : α → St → Prop} {mk : β → Loc} {b : TM} {g : SM} {ok : MH → Prop} (R : Book K H S) (hok : ∀ H', FrB K H H' → ok H')
  (body : ∀ x ∈ xs, ∀ y H' S', Book K H' S' → FrB K H H' → ∃ l₁, b (val x) (mk y) = some l₁ ∧ Ok (g l₁) H' (kfx mk (GoB K (C x) H' S'))) (y : β)
  (h : ∀ y' H', GoB K (fun τ => ∀ x ∈ xs, C x τ) H S H' → T (.next, mk y') H') : Ok (bt ok b g (xs.map val) (mk y)) H T :=
 cj (fun ds => GoB K (fun τ => ∀ x ∈ ds, C x τ) H S) (fun ds H' q => by obtain ⟨S', R', fr, ξ⟩ := q; exact hok _ fr) (fun ds x rs y H' e q => by
  obtain ⟨S', R', fr, dg⟩ := q
  obtain ⟨l₁, e, q⟩ := body x (by rw [e]; simp) y H' S' R' fr
  refine ⟨l₁, e, q.mono fun r H'' q => ⟨q.1, q.2.1, ?_⟩⟩
  obtain ⟨ξ, ξ, S'', R'', fr', dg'⟩ := q
  refine ⟨S'', R'', fr.trans fr', dg.trans dg' (fun τ ξ hh => ⟨fun z hz => hh z (List.mem_append.mpr (.inl hz)), hh x (List.mem_append.mpr (.inr (.head _)))⟩) fun c d z hz => ?_⟩
  rcases List.mem_append.mp hz with hz | hz
  ·exact c z hz
  ·rw [List.mem_singleton.mp hz]; exact d) y ⟨S, R, .refl, .refl fun x h => by cases h⟩ h
theorem cJ : ∀ {ks : List Key}, (∀ k ∈ ks, k.ok = true) → bz (ks.map .ofKey) = some ks
 | [], _ => rfl
 | k :: r, h => by
  exact eD (hV _) (cJ fun x hx => h x (List.mem_cons_of_mem _ hx)) (h k (List.mem_cons_self))
theorem j8 {l : Nat} {m : MObj} (e : H[l]? = some m) : H.set l m = H := by
 apply List.ext_getElem?
 intro i
 by_cases h : l = i
 ·subst h; rw [cD e, e]
 ·rw [List.getElem?_set_ne h]
inductive AddAt (l : Nat) (ks : List Key) (H : MH) (ds : List Key) (H' : MH) : Prop
 | mk (ns : List Key) (e : H' = H.set l (.list ((ks ++ ns).map .ofKey))) (nd : ns.Nodup) (h1 : ∀ k ∈ ns, k ∉ ks ∧ k ∈ ds) (h2 : ∀ k ∈ ds, k ∈ ks ∨ k ∈ ns) (h3 : ns.length ≤ ds.length) : AddAt l ks H ds H'
theorem qg {l m : Nat} {ks js : List Key} (e : H[l]? = some (.list (ks.map .ofKey))) (e' : H[m]? = some (.list (js.map .ofKey))) (hne : l ≠ m) (ok1 : ∀ k ∈ ks, k.ok = true) (ok2 : ∀ k ∈ js, k.ok = true) (hl : ks.length + js.length ≤ 2000)
  (h : ∀ ns : List Key, ns.Nodup → (∀ k ∈ ns, k ∉ ks ∧ k ∈ js) → (∀ k ∈ js, k ∈ ks ∨ k ∈ ns) → P .none (H.set l (.list ((ks ++ ns).map .ofKey)))) : Ok (bq [.ref l, .ref m]) H P := by
 refine a9 rfl <| af <| aS <| ad rfl ⟨rfl, e', ?_⟩
 refine cj (mk := fun w => [some (.ref l), some (.ref m), w]) (AddAt l ks H) (fun ds H' q => ?_) (fun ds k rs y H' ej q => ?_) none ⟨[], by rw [List.append_nil, j8 e], .nil, (fun k h => by cases h), (fun k h => by cases h), Nat.le_refl _⟩ fun y H' q => ?_
 ·obtain ⟨ns, rfl, ξ⟩ := q
  rw [List.getElem?_set_ne hne]; exact e'
 ·obtain ⟨ns, rfl, nd, h1, h2, h3⟩ := q
  have gl : (H.set l (.list ((ks ++ ns).map .ofKey)))[l]? = some (.list ((ks ++ ns).map .ofKey)) := cD e
  have sub : ∀ {x}, x ∈ ds → x ∈ js := fun h => by rw [ej]; exact List.mem_append.mpr (.inl h)
  have kj : k ∈ js := by rw [ej]; exact List.mem_append.mpr (.inr (.head _))
  have okn : ∀ x ∈ ks ++ ns, x.ok = true := fun x hx => by
   rcases List.mem_append.mp hx with hx | hx
   ·exact ok1 x hx
   ·exact ok2 x (sub (h1 x hx).2)
  rw [ej] at hl
  simp only [List.length_append, List.length_cons] at hl
  refine ⟨[some (.ref l), some (.ref m), some (.ofKey k)], rfl, af <| aD <| aR <| ak <| ad rfl <| ad rfl <| kN (neg := true) gl (cJ okn) (hV k) (ok2 k kj) ⟨_, rfl, ?_⟩⟩
  cases hc : (ks ++ ns).contains k with
  | true =>
   have hm := List.contains_iff_mem.mp hc
   refine ag ⟨rfl, ag ⟨.inl rfl, ⟨_, rfl⟩, ns, rfl, nd, fun x hx => ⟨(h1 x hx).1, List.mem_append.mpr (.inl (h1 x hx).2)⟩, fun x hx => ?_, by rw [List.length_append]; exact Nat.le_add_right_of_le h3⟩⟩
   rcases List.mem_append.mp hx with hx | hx
   ·exact h2 x hx
   ·rw [List.mem_singleton.mp hx]; exact List.mem_append.mp hm
  | false =>
   have hm : k ∉ ks ++ ns := fun q => by rw [List.contains_iff_mem.mpr q] at hc; cases hc
   refine af <| aq <| bn <| ad rfl <| gH gl <| aa <| ad rfl <| ae <| lZ gl (by simp only [List.length_map, List.length_append]; exact Nat.lt_of_le_of_lt (show ks.length + ns.length ≤ 2000 by omega) (by decide)) ⟨rfl, ag ⟨rfl, ag ⟨.inl rfl, ⟨_, rfl⟩, ns ++ [k], ?_, ?_, fun x hx => ?_, fun x hx => ?_, by simp only [List.length_append, List.length_singleton]; exact Nat.succ_le_succ h3⟩⟩⟩
   ·rw [List.set_set]; simp
   ·exact List.nodup_append.mpr ⟨nd, by simp, fun a ha b hb q => hm (List.mem_append.mpr (.inr (by rw [← List.mem_singleton.mp hb, ← q]; exact ha)))⟩
   ·rcases List.mem_append.mp hx with hx | hx
    ·exact ⟨(h1 x hx).1, List.mem_append.mpr (.inl (h1 x hx).2)⟩
    ·rw [List.mem_singleton.mp hx]; exact ⟨fun q => hm (List.mem_append.mpr (.inl q)), List.mem_append.mpr (.inr (.head _))⟩
   ·rcases List.mem_append.mp hx with hx | hx
    ·exact (h2 x hx).imp id fun q => List.mem_append.mpr (.inl q)
    ·rw [List.mem_singleton.mp hx]; exact .inr (List.mem_append.mpr (.inr (.head _)))
 ·obtain ⟨ns, rfl, nd, h1, h2, h3⟩ := q
  exact ⟨rfl, ag (.inr ⟨rfl, h ns nd h1 h2⟩)⟩
theorem i9 (fs : List Fact) : fs.map fv = (fs.map Fact.key).map .ofKey := by rw [List.map_map]; rfl
theorem hM (R : Book K H S) {c : Cont} {m : Nat} {gs : List Fact} (hm : H[m]? = some (.list (gs.map fv))) (hf : Free K m) (hc : ∀ f ∈ gs, f.cont = c) (hl : gs.length ≤ 1000) : Ok (bq [.ref (K.at_ c), .ref m]) H fun ξ H' => GoB K (fun τ => ∀ f ∈ gs, τ f) H S H' := by
 obtain ⟨fs, h1, h2, h3⟩ := R.set c
 rw [i9] at h1 hm
 have lfs := ia h2
 have okk : ∀ fs : List Fact, ∀ k ∈ fs.map Fact.key, k.ok = true := fun fs k hk => by obtain ⟨f, ξ, rfl⟩ := List.mem_map.mp hk; exact f.key_ok
 refine qg h1 hm (fun q => hf c q.symm) (okk fs) (okk gs) (by simp only [List.length_map]; omega) fun ns nd n1 n2 => ?_
 obtain ⟨zs, rfl⟩ := jf (α := {f : Fact // f.cont = c}) (f := fun f => f.1.key) (l := ns) fun k hk => by
  obtain ⟨f, hf, rfl⟩ := List.mem_map.mp (n1 k hk).2
  exact ⟨⟨f, hc f hf⟩, rfl⟩
 have ez : zs.map (fun f => f.1.key) = (zs.map (·.1)).map Fact.key := by rw [List.map_map]; rfl
 have zc : ∀ f ∈ zs.map (·.1), f.cont = c := fun f hf => by obtain ⟨z, ξ, rfl⟩ := List.mem_map.mp hf; exact z.2
 rw [ez] at nd n1 n2 ⊢
 generalize zs.map (·.1) = zz at nd n1 n2 zc ⊢
 have ndz := cV nd
 have zg : ∀ f ∈ zz, f ∈ gs := fun f hf => by
  obtain ⟨g, hg, e⟩ := List.mem_map.mp (n1 _ (List.mem_map.mpr ⟨f, hf, rfl⟩)).2
  rw [← Fact.key_inj ((hc g hg).trans (zc f hf).symm) e]; exact hg
 have gz : ∀ f ∈ gs, S f ∨ f ∈ zz := fun f hf => by
  rcases n2 _ (List.mem_map.mpr ⟨f, hf, rfl⟩) with q | q
  ·obtain ⟨g, hg, e⟩ := List.mem_map.mp q
   have gg := (h3 g).mp hg
   rw [← Fact.key_inj (gg.2.trans (hc f hf).symm) e]; exact .inl gg.1
  ·obtain ⟨g, hg, e⟩ := List.mem_map.mp q
   rw [← Fact.key_inj ((zc g hg).trans (hc f hf).symm) e]; exact .inr hg
 have keep : ∀ i m, H[i]? = some m → i ≠ K.at_ c → (H.set (K.at_ c) (.list ((fs.map Fact.key ++ zz.map Fact.key).map .ofKey)))[i]? = some m := fun i m e ne => by rw [List.getElem?_set_ne (fun q => ne q.symm)]; exact e
 have isd : ∀ i es, IsD H i es → IsD (H.set (K.at_ c) (.list ((fs.map Fact.key ++ zz.map Fact.key).map .ofKey))) i es := fun i es x => by
  have hfr := R.dict_free x
  obtain ⟨n, e⟩ := x
  exact ⟨n, keep _ _ e (hfr c)⟩
 refine ⟨fun f => S f ∨ f ∈ zz, {
  bk := isd _ _ R.bk
  hd := isd _ _ R.hd
  is := isd _ _ R.is
  set := fun c' => ?_
  inj := R.inj }, ⟨by simp, fun i hi hfr => by rw [List.getElem?_set_ne (fun q => hfr c q.symm)]⟩, ⟨fun f hf => .inl hf, fun τ hs ht f hf => hf.elim (hs f) fun q => ht f (zg f q), fun e f hf => ?_⟩⟩
 ·by_cases hq : c' = c
  ·subst hq
   refine ⟨fs ++ zz, ?_, List.nodup_append.mpr ⟨h2, ndz, fun a ha b hb q => ?_⟩, fun f => ?_⟩
   ·have em : (fs ++ zz).map Fact.key = fs.map Fact.key ++ zz.map Fact.key := List.map_append
    rw [cD h1, i9 (fs ++ zz), em]
   ·subst q
    exact (n1 _ (List.mem_map.mpr ⟨_, hb, rfl⟩)).1 (List.mem_map.mpr ⟨_, ha, rfl⟩)
   ·rw [List.mem_append, h3]
    constructor
    ·rintro (⟨a, b⟩ | q)
     ·exact ⟨.inl a, b⟩
     ·exact ⟨.inr q, zc f q⟩
    ·rintro ⟨a | a, b⟩
     ·exact .inl ⟨a, b⟩
     ·exact .inr a
  ·obtain ⟨fs', q1, q2, q3⟩ := R.set c'
   refine ⟨fs', keep _ _ q1 (fun q => hq (R.inj _ _ q)), q2, fun f => (q3 f).trans ⟨fun x => ⟨.inl x.1, x.2⟩, fun x => ⟨x.1.elim id fun q => ?_, x.2⟩⟩⟩
   exact absurd ((x.2.symm.trans (zc f q))) hq
 ·have hz : S f ∨ f ∈ zz := gz f hf
  rw [← e]; exact hz
end
section
variable {K : BFix} {H H' H'' : MH} {S S' : St} {P : V → MH → Prop} {B : Bool → MH → Prop} {T : Fl × Loc → MH → Prop} {loc : Loc}
theorem ok_mulL {l : Nat} {xs : List V} {i : Int} (e : H[l]? = some (.list xs)) (hi : 0 ≤ i ∧ i ≤ 1000 ∧ xs.length ≤ 100) (h : P (.ref H.length) (H ++ [.list (List.replicate i.toNat xs).flatten])) : Ok (kY (.ref l) (.int i)) H P := ⟨_, _, by unfold kY; rw [cY e]; exact if_pos hi, h⟩
theorem ok_intB {b : Bool} (h : P (.int (if b then 1 else 0)) H) : Ok (mInt [.bool b]) H P := ⟨_, H, rfl, h⟩
theorem dR {i : Int} {f : EM V} (h : Ok (f loc) H fun v H' => v = .int i ∧ P (.int (-i)) H') : Ok (e1 mNeg f loc) H P := cA (h.mono fun v H' q => by obtain ⟨rfl, q⟩ := q; exact ⟨_, H', rfl, q⟩)
theorem Book.word (R : Book K H S) {i : Nat} {w : Str} {v : V} (hi : loc[i]? = some (some (.ref K.bk))) (hw : dget [(.p (.str "held"), .ref K.hd), (.p (.str "gone"), .ref (K.at_ .gone)), (.p (.str "leaks"), .ref (K.at_ .leaks)), (.p (.str "kept"), .ref (K.at_ .kept)), (.p (.str "inside"), .ref K.is)] (.p (.str w)) = some v) (h : P v H) : Ok (e2 ah (eLoc i) (eC (.str w)) loc) H P :=
 ak <| ad hi <| ok_C <| bw R.bk (p := .str w) rfl rfl hw h
theorem Book.inside (R : Book K H S) {i : Nat} (hi : loc[i]? = some (some (.ref K.bk))) (h : P (.ref K.is) H) : Ok (e2 ah (eLoc i) (eC (.str "inside")) loc) H P := R.word hi rfl h
theorem Book.held (R : Book K H S) {i : Nat} (hi : loc[i]? = some (some (.ref K.bk))) (h : P (.ref K.hd) H) : Ok (e2 ah (eLoc i) (eC (.str "held")) loc) H P := R.word hi rfl h
theorem Book.gone (R : Book K H S) {i : Nat} (hi : loc[i]? = some (some (.ref K.bk))) (h : P (.ref (K.at_ .gone)) H) : Ok (e2 ah (eLoc i) (eC (.str "gone")) loc) H P := R.word hi rfl h
theorem Book.leaks (R : Book K H S) {i : Nat} (hi : loc[i]? = some (some (.ref K.bk))) (h : P (.ref (K.at_ .leaks)) H) : Ok (e2 ah (eLoc i) (eC (.str "leaks")) loc) H P := R.word hi rfl h
theorem Book.kept (R : Book K H S) {i : Nat} (hi : loc[i]? = some (some (.ref K.bk))) (h : P (.ref (K.at_ .kept)) H) : Ok (e2 ah (eLoc i) (eC (.str "kept")) loc) H P := R.word hi rfl h
theorem Book.reg (R : Book K H S) {r : Fin 8} (h : P (.ref (K.at_ (.held r))) H) : Ok (ah (.ref K.hd) (.int ((r.val : Nat) : Int))) H P := by
 have ap : allP ((List.finRange 8).map fun r => (Key.p (Cont.held r).nm, V.ref (K.at_ (.held r)))) = true := by unfold allP; simp [Key.isP]
 refine bw R.hd (p := .int ((r.val : Nat) : Int)) rfl ap ?_ h
 have e : ((List.finRange 8).map fun r => (Key.p (Cont.held r).nm, V.ref (K.at_ (.held r)))) = ((List.finRange 8).map Cont.held).map fun c => (Key.p c.nm, V.ref (K.at_ c)) := by rw [List.map_map]; rfl
 rw [e]
 rcases fk (p := false) (c := .held r) (g := fun c => V.ref (K.at_ c)) (cs := (List.finRange 8).map Cont.held) (fun x hx => by obtain ⟨r, ξ, rfl⟩ := List.mem_map.mp hx; rfl) rfl with ⟨a, _⟩ | ⟨_, b⟩
 ·exact a
 ·exact absurd (List.mem_map.mpr ⟨r, List.mem_finRange r, rfl⟩) b
theorem siteTab {p : Bool} : ∀ x ∈ ([.a, .b, .c, .d] : List Site).map Cont.ins, x.tab = some true := fun x hx => by obtain ⟨r, ξ, rfl⟩ := List.mem_map.mp hx; rfl
theorem mem_site (s : Site) : s ∈ ([.a, .b, .c, .d] : List Site) := by cases s <;> simp
theorem Book.isGet (R : Book K H S) (s : Site) : dget (([.a, .b, .c, .d] : List Site).map fun s => (Key.p (Cont.ins s).nm, V.ref (K.at_ (.ins s)))) (.p (.str s.str)) = some (.ref (K.at_ (.ins s))) := by
 have e : (([.a, .b, .c, .d] : List Site).map fun s => (Key.p (Cont.ins s).nm, V.ref (K.at_ (.ins s)))) = (([.a, .b, .c, .d] : List Site).map Cont.ins).map fun c => (Key.p c.nm, V.ref (K.at_ c)) := by rw [List.map_map]; rfl
 rw [e]
 rcases fk (p := true) (c := .ins s) (g := fun c => V.ref (K.at_ c)) (cs := ([.a, .b, .c, .d] : List Site).map Cont.ins) (siteTab (p := true)) rfl with ⟨a, _⟩ | ⟨_, b⟩
 ·exact a
 ·exact absurd (List.mem_map.mpr ⟨s, mem_site s, rfl⟩) b
theorem Book.toks (R : Book K H S) {c : Cont} {p : Bool} (hc : c.tab = some p) : ∃ ts : List Tk, H[K.at_ c]? = some (.list (ts.map Tk.v)) ∧ ts.Nodup ∧ ∀ t, t ∈ ts ↔ S (c.of t) := by
 obtain ⟨fs, h1, h2, h3⟩ := R.set c
 obtain ⟨ts, e1, e2, e3, e4⟩ := pY hc h2 h3
 refine ⟨ts, ?_, e3, e4⟩
 rw [h1, i9, e2, List.map_map]
 have : ts.map (V.ofKey ∘ Tk.key) = ts.map Tk.v := List.map_congr_left fun t ξ => t.of_key
 rw [this]
theorem Book.keptSet (R : Book K H S) : ∃ ps : List (Option Bool × Bool), H[K.at_ .kept]? = some (.list (ps.map fun p => V.tup [.int (ii p.1), .int (oi p.2)])) ∧ ps.Nodup ∧ ∀ i o, (i, o) ∈ ps ↔ S (.kept i o) := by
 obtain ⟨fs, x, y, z⟩ := R.set .kept
 have e : fs = (fs.map fun f => match f with | .kept i o => (i, o) | _ => (none, false)).map fun p => Fact.kept p.1 p.2 := by
  rw [List.map_map]
  exact (List.map_id fs).symm.trans (List.map_congr_left fun f hf => by
   have := ((z f).mp hf).2
   cases f <;> first | rfl | cases this)
 generalize (fs.map fun f => match f with | .kept i o => (i, o) | _ => (none, false)) = ps at e
 subst e
 refine ⟨ps, by rw [x, List.map_map]; rfl, cV y, fun i o => ?_⟩
 have := z (.kept i o)
 simp only [Fact.cont, and_true] at this
 rw [← this]
 constructor
 ·intro h; exact List.mem_map.mpr ⟨_, h, rfl⟩
 ·intro h
  obtain ⟨⟨i', o'⟩, h, e⟩ := List.mem_map.mp h
  simp only [Fact.kept.injEq] at e
  rw [← e.1, ← e.2]
  exact h
theorem Book.inGone (R : Book K H S) {neg : Bool} {s : Site} (h : ∀ b : Bool, (b = true ↔ S (.gone s)) → P (.bool (neg.xor b)) H) : Ok (mIn neg (.str s.str) (.ref (K.at_ .gone))) H P := by
 obtain ⟨fs, x, y, z⟩ := R.set .gone
 rw [i9] at x
 refine kN x (cJ fun k hk => by obtain ⟨f, ξ, rfl⟩ := List.mem_map.mp hk; exact f.key_ok) (k := .p (.str s.str)) rfl (Fact.key_ok (.gone s)) (h _ ?_)
 rw [List.contains_iff_mem]
 constructor
 ·intro q
  obtain ⟨g, hg, e⟩ := List.mem_map.mp q
  obtain ⟨a, b⟩ := (z g).mp hg
  obtain rfl := Fact.key_inj (g := .gone s) b e
  exact a
 ·intro q
  exact List.mem_map.mpr ⟨.gone s, (z _).mpr ⟨q, rfl⟩, rfl⟩
theorem q8 {l m : Nat} {us xs : List Tk} (e : H[l]? = some (.list (us.map Tk.v))) (e' : H[m]? = some (.list (xs.map Tk.v))) (hne : l ≠ m) (hl : us.length + xs.length ≤ 2000)
  (h : ∀ ns : List Tk, ns.Nodup → (∀ t ∈ ns, t ∉ us ∧ t ∈ xs) → (∀ t ∈ xs, t ∈ us ∨ t ∈ ns) → P .none (H.set l (.list ((us ++ ns).map Tk.v)))) : Ok (bq [.ref l, .ref m]) H P := by
 have ev : ∀ us : List Tk, us.map Tk.v = (us.map Tk.key).map .ofKey := fun us => by rw [List.map_map]; exact List.map_congr_left fun t ξ => t.of_key.symm
 rw [ev] at e e'
 have okk : ∀ us : List Tk, ∀ k ∈ us.map Tk.key, k.ok = true := fun us k hk => by obtain ⟨f, ξ, rfl⟩ := List.mem_map.mp hk; exact f.key_ok
 refine qg e e' hne (okk us) (okk xs) (by simpa using hl) fun ns nd n1 n2 => ?_
 obtain ⟨zs, rfl⟩ := jf (f := Tk.key) (l := ns) fun k hk => by
  obtain ⟨f, ξ, rfl⟩ := List.mem_map.mp (n1 k hk).2
  exact ⟨f, rfl⟩
 rw [← List.map_append, ← ev]
 exact h zs (cV nd) (fun t ht => by
  have := n1 _ (mem_key.mpr ht)
  exact ⟨fun q => this.1 (mem_key.mpr q), mem_key.mp this.2⟩) fun t ht => (n2 _ (mem_key.mpr ht)).imp mem_key.mp mem_key.mp
theorem ok_uninB {a : Nat} {i : Option Bool} (hl : loc[a]? = some (some (.int (ii i)))) (h : P (unin i).v H) : Ok (eIf (bV (e2 mEq (eLoc a) (e1 mNeg (eC (.int 1))))) (av (ac (eC (.str "beyond")) (lNil))) (av (ac (eC (.str "outer")) (ac (eLoc a) (lNil)))) loc) H P :=
 bM <| aR <| ak <| ad hl <| dR (i := 1) <| ok_C ⟨rfl, gG (eT i) (by decide +kernel) ⟨_, rfl, by
  rcases i with _ | o
  ·exact aB <| aa <| ok_C <| ae ⟨lim1, h⟩
  ·have : decide (ii (some o) = -1) = false := by cases o <;> decide
   rw [this]
   exact aB <| aa <| ok_C <| aa <| ad hl <| ae ⟨lim2, h⟩⟩⟩
inductive GatN (H : MH) (n : Nat) (X : Tk → Prop) (v : V) (H' : MH) : Prop where
 | mk (l : Nat) (us : List Tk) (h0 : v = .ref l) (h1 : H'[l]? = some (.list (us.map Tk.v))) (h2 : us.length ≤ n) (h3 : ∀ u, u ∈ us ↔ X u) (h4 : Ext H H') (h5 : H.length ≤ l) : GatN H n X v H'
inductive AS (S : St) (ts ns : List Tk) (i : Nat) : Prop
 | mk (nd : ns.Nodup) (hi : i ≤ (ts ++ ns).length) (h1 : ∀ u ∈ ts ++ ns, Reach S (· ∈ ts) u) (h2 : ∀ j t, j < i → (ts ++ ns)[j]? = some t → ∀ u, load S t u → u ∈ ts ++ ns) : AS S ts ns i
theorem AS.nodup {S : St} {ts ns : List Tk} {i : Nat} (a : AS S ts ns i) : ns.Nodup := by obtain ⟨h, ξ⟩ := a; exact h
theorem AS.start {S : St} {ts : List Tk} : AS S ts [] 0 := ⟨.nil, Nat.zero_le _, fun u hu => .base (by rwa [List.append_nil] at hu), fun j t hj => absurd hj (Nat.not_lt_zero _)⟩
theorem AS.done {S : St} {ts ns : List Tk} {i : Nat} (a : AS S ts ns i) (hlt : ¬ i < (ts ++ ns).length) (u : Tk) : u ∈ ts ++ ns ↔ Reach S (· ∈ ts) u := by
 obtain ⟨ξ, ξ, h1, h2⟩ := a
 refine ⟨h1 u, fun r => ?_⟩
 induction r with
 | base hx => exact List.mem_append.mpr (.inl hx)
 | step _ hload ih =>
  obtain ⟨j, hj⟩ := List.getElem?_of_mem ih
  exact h2 j _ (Nat.lt_of_lt_of_le (List.getElem?_eq_some_iff.mp hj).1 (Nat.le_of_not_lt hlt)) hj _ hload
theorem AS.next {S : St} {ts ns zs : List Tk} {i : Nat} {t : Tk} (a : AS S ts ns i) (het : (ts ++ ns)[i]? = some t) (nd : (ns ++ zs).Nodup) (hz : ∀ u ∈ zs, load S t u) (hl : ∀ u, load S t u → u ∈ ts ++ (ns ++ zs)) : AS S ts (ns ++ zs) (i + 1) := by
 obtain ⟨ξ, hi, h1, h2⟩ := a
 have hlt := (List.getElem?_eq_some_iff.mp het).1
 refine ⟨nd, ?_, fun u hu => ?_, fun j t' hj hjt u hu => ?_⟩
 ·rw [← List.append_assoc, List.length_append]; exact Nat.le_trans hlt (Nat.le_add_right _ _)
 ·rw [← List.append_assoc] at hu
  exact (List.mem_append.mp hu).elim (h1 u) fun hu => .step (h1 t (List.mem_of_getElem? het)) (hz u hu)
 ·rcases Nat.lt_succ_iff_lt_or_eq.mp hj with hj' | rfl
  ·rw [← List.append_assoc, List.getElem?_append_left (Nat.lt_trans hj' hlt)] at hjt
   rw [← List.append_assoc]
   exact List.mem_append.mpr (.inl (h2 j t' hj' hjt u hu))
  ·rw [← List.append_assoc, List.getElem?_append_left hlt, het] at hjt
   cases hjt
   exact hl u hu
@[reducible] noncomputable def lE (K : BFix) (lt : Nat) (H : MH) (i : Int) (w4 w5 : Option V) : Loc := [some (.ref K.bk), some (.ref lt), some (.ref H.length), some (.int i), w4, w5, none, none, none, none]
inductive AllAt (K : BFix) (lt : Nat) (H : MH) (S : St) (ts : List Tk) (n : Nat) (lc : Loc) (H' : MH) : Prop
 | mk (w4 w5 : Option V) (ns : List Tk) (i : Nat) (elc : lc = lE K lt H i w4 w5) (x : Ext H H') (hl : H'[H.length]? = some (.list ((ts ++ ns).map Tk.v))) (hn : n = ts.length + 7 - i) (as : AS S ts ns i) : AllAt K lt H S ts n lc H'
theorem qw {lt : Nat} {ts ns zs : List Tk} {i : Nat} {w4 w5 : Option V} {H₂ : MH} (hlt : i < (ts ++ ns).length) (lln : (ts ++ ns).length ≤ ts.length + 7) (x : Ext H H₂) (hl : H₂[H.length]? = some (.list ((ts ++ (ns ++ zs)).map Tk.v))) (as : AS S ts (ns ++ zs) (i + 1)) : kwl (AllAt K lt H S ts) (ts.length + 7 - i) (lE K lt H (i + 1) w4 w5) H₂ :=
 ⟨ts.length + 7 - (i + 1), Nat.sub_lt_sub_left (Nat.lt_of_lt_of_le hlt lln) (Nat.lt_succ_self i), w4, w5, ns ++ zs, i + 1, rfl, x, hl, rfl, as⟩
theorem all_add {lt m : Nat} {ts ns xs : List Tk} {i : Nat} {t : Tk} {w5 : Option V} {H₁ H₂ : MH} {T : V → MH → Prop} (as : AS S ts ns i) (het : (ts ++ ns)[i]? = some t) (hlt : i < (ts ++ ns).length) (x : Ext H H₁) (hl : H₁[H.length]? = some (.list ((ts ++ ns).map Tk.v))) (lln : (ts ++ ns).length ≤ ts.length + 7) (hlen : ts.length ≤ 500)
  (x₂ : Ext H₁ H₂) (hm : H₂[m]? = some (.list (xs.map Tk.v))) (hle : H₁.length ≤ m) (hlx : xs.length ≤ 1000) (hxs : ∀ u, u ∈ xs ↔ load S t u) (k : ∀ H₃, kwl (AllAt K lt H S ts) (ts.length + 7 - i) (lE K lt H (i + 1) (some t.v) w5) H₃ → T .none H₃) : Ok (bq [.ref H.length, .ref m]) H₂ T := by
 have nd := as.nodup
 have h7 := bA hl
 refine q8 (x₂.get hl) hm (Nat.ne_of_lt (Nat.lt_of_lt_of_le h7 hle)) (Nat.le_trans (Nat.add_le_add (Nat.le_trans lln (Nat.add_le_add_right hlen 7)) hlx) (by decide)) fun zs ndz z1 z2 => k _ (qw hlt lln (zs := zs) ((x.trans x₂).set (Nat.le_refl _)) ?_ (as.next het ?_ (fun u hu => (hxs u).mp (z1 u hu).2) fun u hu => ?_))
 ·rw [cD (x₂.get hl), List.append_assoc]
 ·exact List.nodup_append.mpr ⟨nd, ndz, fun a ha b hb q => (z1 b hb).1 (List.mem_append.mpr (.inr (q ▸ ha)))⟩
 ·rw [← List.append_assoc]
  exact List.mem_append.mpr (z2 u ((hxs u).mpr hu))
theorem pA (R : Book K H S) {ts : List Tk} {lt : Nat} (ht : H[lt]? = some (.list (ts.map Tk.v))) (hlen : ts.length ≤ 500) : Ok (dX [.ref K.bk, .ref lt]) H (GatN H (ts.length + 7) (Reach S (· ∈ ts))) := by
 refine a9 rfl <| af <| en <| aB <| aa <| aC <| aa <| ad rfl <| ae <| jX ht (by rw [List.length_map]; exact Nat.le_trans hlen (by decide)) <| aa <| ok_C <| ae ⟨lim2, _, rfl, rfl, ?_⟩
 refine af <| kA (AllAt K lt H S ts) ?_ (ts.length + 7) _ _ ⟨none, none, [], 0, rfl, .app, by rw [List.append_nil]; exact aj, rfl, .start⟩
 intro n lc H₁ q
 obtain ⟨w4, w5, ns, i, rfl, x, hl, rfl, as⟩ := q
 have l7 := d9 as.nodup
 have lln : (ts ++ ns).length ≤ ts.length + 7 := by rw [List.length_append]; omega
 refine aR <| ak <| ad rfl <| aC <| aa <| ad rfl <| ae <| cU hl (by rw [List.length_map]; exact Nat.le_trans (show (ts ++ ns).length ≤ 507 by omega) (by decide)) <| kF ⟨_, rfl, ?_⟩
 by_cases hlt : i < (ts ++ ns).length
 ·have hd : decide ((i : Int) < (((ts ++ ns).map Tk.v).length : Int)) = true := decide_eq_true (by rw [List.length_map]; omega)
  rw [hd]
  obtain ⟨t, het⟩ : ∃ t, (ts ++ ns)[i]? = some t := ⟨_, List.getElem?_eq_getElem hlt⟩
  have hev : ((ts ++ ns).map Tk.v)[i]? = some t.v := by rw [List.getElem?_map, het]; rfl
  refine af <| en <| aB <| aa <| ak <| ad rfl <| ad rfl <| b7 hl (by omega) hev <| aa <| ak <| ad rfl <| ok_C <| dG <| ae ⟨lim2, _, rfl, rfl, ?_⟩
  have R₁ := R.ext x
  have add : ∀ (T : V → MH → Prop) (w5 : Option V) (H₂ : MH) (m : Nat) (xs : List Tk), Ext H₁ H₂ → H₂[m]? = some (.list (xs.map Tk.v)) → H₁.length ≤ m → xs.length ≤ 1000 → (∀ u, u ∈ xs ↔ load S t u) → (∀ H₃, kwl (AllAt K lt H S ts) (ts.length + 7 - i) (lE K lt H (i + 1) (some t.v) w5) H₃ → T .none H₃) → Ok (bq [.ref H.length, .ref m]) H₂ T := fun T w5 H₂ m xs => all_add as het hlt x hl lln hlen
  have skip : (∀ u, ¬ load S t u) → kwl (AllAt K lt H S ts) (ts.length + 7 - i) (lE K lt H (i + 1) (some t.v) w5) H₁ := fun hn => qw hlt lln (zs := []) x (by rw [List.append_nil]; exact hl) (as.next het (by rw [List.append_nil]; exact as.nodup) (fun u hu => by cases hu) fun u hu => absurd hu (hn u))
  cases t with
  | beyond =>
   refine af <| aD <| du (t := .beyond) <| ad rfl ⟨rfl, ag ⟨rfl, ?_⟩⟩
   exact af <| aD <| fS (t := .beyond) <| ad rfl ⟨rfl, ag ⟨rfl, ag ⟨.inl rfl, skip fun u h => h⟩⟩⟩
  | out o =>
   refine af <| aD <| du (t := .out o) <| ad rfl ⟨rfl, ag ⟨rfl, ?_⟩⟩
   refine af <| aD <| fS (t := .out o) <| ad rfl ⟨rfl, ?_⟩
   obtain ⟨ps, hps, ndp, mps⟩ := R₁.keptSet
   have lps : ps.length ≤ 6 := cr (m := ([none, some false, some true] : List (Option Bool)).flatMap fun i => [(i, false), (i, true)]) ndp fun q ξ => by
    obtain ⟨i, o⟩ := q
    rcases i with _ | (_ | _) <;> cases o <;> simp
   refine af <| aO <| dF (α := Option Bool × Bool) (β := Option V × Option V) (xs := ps) (val := fun p => V.tup [.int (ii p.1), .int (oi p.2)]) (p := fun q => decide (oi q.2 = oi o)) (em := fun q => V.int (ii q.1)) (mk := fun y => [none, y.1, y.2, some (Tk.out o).v]) (y := (none, none)) (by omega) rfl <|
    bK <| R₁.kept rfl <| bP hps fun s hs hok => ⟨hs, hok, fun q ξ y H' x' => ⟨(some (.int (ii q.1)), some (.int (oi q.2))), rfl, fun B hB => aR <| ak <| ad rfl <| ak <| ad rfl <| ok_C <| gi <| gG (eT (some q.2)) (eT (some o)) ⟨_, rfl, by rw [Bool.false_xor]; exact hB⟩, fun ξ P hP => ad rfl hP⟩, rfl, ?_⟩
   have lfp : (ps.filter fun q => decide (oi q.2 = oi o)).length ≤ 6 := Nat.le_trans (List.length_filter_le _ _) lps
   have x₂ : Ext H₁ (H₁ ++ [MObj.list ((ps.filter fun q => decide (oi q.2 = oi o)).map fun q => V.int (ii q.1))]) := .app
   have em : ((ps.filter fun q => decide (oi q.2 = oi o)).map fun q => V.int (ii q.1)) = ((ps.filter fun q => decide (oi q.2 = oi o)).map (·.1)).map fun i => V.int (ii i) := by rw [List.map_map]; rfl
   have mem : ∀ i, i ∈ (ps.filter fun q => decide (oi q.2 = oi o)).map (·.1) ↔ S (.kept i o) := fun i => by
    rw [← mps i o, List.mem_map]
    constructor
    ·rintro ⟨⟨i', o'⟩, h, rfl⟩
     obtain ⟨q1, q2⟩ := List.mem_filter.mp h
     rw [← kS (of_decide_eq_true q2)]; exact q1
    ·intro h
     exact ⟨(i, o), List.mem_filter.mpr ⟨h, decide_eq_true rfl⟩, rfl⟩
   rw [em] at x₂ ⊢
   have gl := aj (H := H₁) (m := MObj.list (((ps.filter fun q => decide (oi q.2 = oi o)).map (·.1)).map fun i => V.int (ii i)))
   have lis : ((ps.filter fun q => decide (oi q.2 = oi o)).map (·.1)).length ≤ 6 := by rw [List.length_map]; exact lfp
   generalize (ps.filter fun q => decide (oi q.2 = oi o)).map (·.1) = is at mem x₂ gl lis ⊢
   refine af <| aq <| aC <| aa <| ad rfl <| aa <| dF (α := Option Bool) (β := Option V) (xs := is) (val := fun i => V.int (ii i)) (p := fun ξ => true) (em := fun i => (unin i).v) (mk := fun y => [none, y]) (y := none) (by omega) rfl <|
    bK <| ad rfl <| bP gl fun s hs hok => ⟨hs, hok, fun i ξ y H' x' => ⟨some (.int (ii i)), rfl, fun B hB => c9 hB, fun ξ P hP => ok_uninB rfl hP⟩, ae ?_⟩
   have ef : is.filter (fun ξ => true) = is := List.filter_eq_self.mpr fun ξ ξ => rfl
   have eu : is.map (fun i => (unin i).v) = (is.map unin).map Tk.v := by rw [List.map_map]; rfl
   rw [ef, eu]
   refine add _ (some (.ref H₁.length)) _ _ (is.map unin) (x₂.trans .app) aj (by simp) (by rw [List.length_map]; omega) (fun u => ?_) fun H₃ q => ⟨rfl, ag ⟨rfl, ag ⟨.inl rfl, q⟩⟩⟩
   rw [List.mem_map]
   constructor
   ·rintro ⟨i, h, rfl⟩; exact ⟨i, (mem i).mp h, rfl⟩
   ·rintro ⟨i, h, rfl⟩; exact ⟨i, (mem i).mpr h, rfl⟩
  | site s =>
   refine af <| aD <| du (t := .site s) <| ad rfl ⟨rfl, ?_⟩
   obtain ⟨cs, hcs, ndc, mcs⟩ := R₁.toks (c := .ins s) (p := true) rfl
   have lcs := d9 ndc
   have ap : allP (([.a, .b, .c, .d] : List Site).map fun s => (Key.p (Cont.ins s).nm, V.ref (K.at_ (.ins s)))) = true := rfl
   have xa : Ext H₁ (H₁ ++ [MObj.list []]) := .app
   refine af <| aq <| aC <| aa <| ad rfl <| aa <| ak <| bn <| R₁.inside rfl <| b8 R₁.is <| aa <| ak <| ad rfl <| ok_C <| dl <| aa <| aF <| ae ⟨Nat.zero_le _, ae <| iA (xa.isD R₁.is) (p := .str s.str) rfl ap ?_⟩
   rw [R₁.isGet s]
   show Ok _ (H₁ ++ [MObj.list []]) _
   have xb : Ext H₁ (H₁ ++ [MObj.list []] ++ [MObj.list [Tk.beyond.v]]) := xa.trans .app
   refine ak <| aF <| aa <| aB <| aa <| ok_C <| ae ⟨lim1, ae ⟨lim1, ?_⟩⟩
   refine aC <| aa <| ak <| ak <| ad rfl <| ok_C <| dl <| (R₁.ext xb).gone rfl <| (R₁.ext xb).inGone fun b hb => ae <| ok_intB ?_
   refine ok_mulL aj (by cases b <;> decide) ?_
   have eb : (List.replicate (if (false ^^ b) = true then (1 : Int) else 0).toNat [Tk.beyond.v]).flatten = (if b then [Tk.beyond] else []).map Tk.v := by cases b <;> rfl
   rw [eb]
   have xc := xb.trans (Ext.app (H := H₁ ++ [MObj.list []] ++ [MObj.list [Tk.beyond.v]]) (t := [MObj.list ((if b then [Tk.beyond] else []).map Tk.v)]))
   have lb : (if b then [Tk.beyond] else []).length ≤ 1 := by cases b <;> decide
   refine fA (xc.get hcs) aj (by simp only [List.length_map]; exact Nat.le_trans (show cs.length + (if b then [Tk.beyond] else []).length ≤ 100 by omega) (by decide)) ?_
   rw [← List.map_append]
   refine ae <| add _ w5 _ _ (cs ++ if b then [Tk.beyond] else []) (xc.trans .app) aj (xc.1) (by rw [List.length_append]; omega) (fun u => ?_) fun H₃ q => ⟨rfl, ag ⟨rfl, ?_⟩⟩
   ·rw [List.mem_append, mcs]
    refine or_congr .rfl ?_
    cases b with
    | true => simp [← hb]
    | false =>
     constructor
     ·intro h; cases h
     ·rintro ⟨_, h⟩; exact absurd (hb.mpr h) (by decide)
   ·exact af <| aD <| fS (t := .site s) <| ad rfl ⟨rfl, ag ⟨rfl, ag ⟨.inl rfl, q⟩⟩⟩
 ·have hd : decide ((i : Int) < (((ts ++ ns).map Tk.v).length : Int)) = false := decide_eq_false (by rw [List.length_map]; omega)
  rw [hd]
  exact ⟨rfl, aK <| bZ <| ad rfl <| .inl ⟨_, rfl, _, _, rfl, hl, lln, as.done hlt, x, Nat.le_refl _⟩⟩
end
section
variable {K : BFix} {H H' H'' : MH} {S S' : St} {P : V → MH → Prop} {B : Bool → MH → Prop} {T : Fl × Loc → MH → Prop} {loc : Loc}
theorem gF (R : Book K H S) {ts : List Tk} {lt : Nat} (ht : H[lt]? = some (.list (ts.map Tk.v))) (hlen : ts.length ≤ 500) : Ok (cW [.ref K.bk, .ref lt]) H fun ξ H' => GoB K (fun τ => Lk τ (· ∈ ts)) H S H' := by
 refine a9 rfl <| af <| b5 <| bK <| aC <| aa <| ad rfl <| aa <| ad rfl <| ae <| (pA R ht hlen).mono fun v H₁ q => ?_
 obtain ⟨l, us, rfl, hl, hlu, hu, x, hll⟩ := q
 have R₁ := R.ext x
 have fl : Free K l := R.new_free hll
 refine bh hl ?_
 refine R₁.each (α := Tk) (β := Option V) (C := fun t τ => out1 τ t) (mk := fun w => [some (.ref K.bk), some (.ref lt), w, none, none]) (fun H' fr => fr.get hl fl) (fun t ξ y H' S' R' fr => ⟨[some (.ref K.bk), some (.ref lt), some t.v, none, none], rfl, ?_⟩) none fun y' H' g => ⟨rfl, ag (.inr ⟨rfl, ?_⟩)⟩
 ·cases t with
  | beyond =>
   exact af <| aD <| lS (neg := true) (t := .beyond) <| ad rfl ⟨rfl, ag ⟨rfl, ag ⟨.inl rfl, ⟨_, rfl⟩, .skip R' trivial⟩⟩⟩
  | site s =>
   refine af <| aD <| lS (neg := true) (t := .site s) <| ad rfl ⟨rfl, ?_⟩
   refine af <| aq <| aC <| aa <| ak <| ad rfl <| bM <| du (t := .site s) <| ad rfl ⟨rfl, ok_C <| bw R'.bk (p := .str "gone") rfl rfl rfl <| aa <| aF <| aa <| ak <| ad rfl <| ok_C <| dl <| ae ⟨lim1, ae ?_⟩⟩
   refine (hM (c := .gone) (gs := [.gone s]) (R'.ext (.app (t := [.list [.str s.str]]))) aj (R'.new_free (Nat.le_refl _)) (fun f hf => by rw [List.mem_singleton.mp hf]; rfl) (by simp)).mono fun ξ H'' g => ⟨rfl, ag ⟨rfl, ag ⟨.inl rfl, ⟨_, rfl⟩, ?_⟩⟩⟩
   exact (g.start .app).conv (fun τ ξ h f hf => by rw [List.mem_singleton.mp hf]; exact h) fun h => h _ (List.mem_singleton.mpr rfl)
  | out o =>
   refine af <| aD <| lS (neg := true) (t := .out o) <| ad rfl ⟨rfl, ?_⟩
   refine af <| aq <| aC <| aa <| ak <| ad rfl <| bM <| du (t := .out o) <| ad rfl ⟨rfl, ok_C <| bw R'.bk (p := .str "leaks") rfl rfl rfl <| aa <| aF <| aa <| ak <| ad rfl <| ok_C <| gi <| ae ⟨lim1, ae ?_⟩⟩
   refine (hM (c := .leaks) (gs := [.leak o]) (R'.ext (.app (t := [.list [.int (oi o)]]))) aj (R'.new_free (Nat.le_refl _)) (fun f hf => by rw [List.mem_singleton.mp hf]; rfl) (by simp)).mono fun ξ H'' g => ⟨rfl, ag ⟨rfl, ag ⟨.inl rfl, ⟨_, rfl⟩, ?_⟩⟩⟩
   exact (g.start .app).conv (fun τ ξ h f hf => by rw [List.mem_singleton.mp hf]; exact h) fun h => h _ (List.mem_singleton.mpr rfl)
 ·exact (g.start x).conv (fun τ hs h t ht => h t (((hu t).mp ht).mono hs fun ξ h => h)) fun h t r => h t ((hu t).mpr r)
theorem ok_innB {i : Nat} {t : Tk} (hl : loc[i]? = some (some t.v)) (h : P (.int (ii t.inn)) H) : Ok (eIf (bV (e2 mEq (e2 ah (eLoc i) (eC (.int 0))) (eC (.str "outer")))) (e2 ah (eLoc i) (eC (.int 1))) (e1 mNeg (eC (.int 1))) loc) H P := by
 refine bM <| fS (t := t) <| ad hl ⟨rfl, ?_⟩
 cases t with
 | out o => exact ak <| ad hl <| ok_C <| gi h
 | site s => exact dR (i := 1) <| ok_C ⟨rfl, h⟩
 | beyond => exact dR (i := 1) <| ok_C ⟨rfl, h⟩
theorem tk_fv (c : Cont) {p : Bool} (hc : c.tab = some p) (ts : List Tk) : ts.map Tk.v = (ts.map c.of).map fv := by
 rw [List.map_map]
 exact List.map_congr_left fun t ξ => by show t.v = V.ofKey (c.of t).key; rw [Cont.of_key hc, Tk.of_key]
theorem qb (R : Book K H S) {tg ts : List Tk} {lg lt : Nat} (hg : H[lg]? = some (.list (tg.map Tk.v))) (fg : Free K lg) (ht : H[lt]? = some (.list (ts.map Tk.v))) (ft : Free K lt) (hlen : ts.length ≤ 400) : Ok (fe [.ref K.bk, .ref lg, .ref lt]) H fun ξ H' => GoB K (fun τ => ∀ g ∈ tg, Pt τ (· ∈ ts) g) H S H' := by
 refine a9 rfl <| af <| aS <| ad rfl ⟨rfl, hg, ?_⟩
 refine R.each (α := Tk) (β := Option V × Option V) (C := fun g τ => Pt τ (· ∈ ts) g) (mk := fun y => [some (.ref K.bk), some (.ref lg), some (.ref lt), y.1, y.2, none, none, none]) (fun H' fr => fr.get hg fg) (fun g ξ y H₁ S₁ R₁ fr₁ => ⟨[some (.ref K.bk), some (.ref lg), some (.ref lt), some g.v, y.2, none, none, none], rfl, ?_⟩) (none, none) fun y' H' g => ⟨rfl, ag (.inr ⟨rfl, g⟩)⟩
 have ht₁ := fr₁.get ht ft
 cases g with
 | beyond =>
  refine af <| aD <| du (t := .beyond) <| ad rfl ⟨rfl, ag ⟨rfl, ?_⟩⟩
  refine af <| aD <| fS (t := .beyond) <| ad rfl ⟨rfl, ag ⟨rfl, ?_⟩⟩
  refine af <| aD <| iU <| lS (t := .beyond) <| ad rfl ⟨rfl, ?_⟩
  exact af <| aq <| aC <| aa <| ad rfl <| aa <| ad rfl <| ae <| (gF R₁ ht₁ (by omega)).mono fun ξ H₂ g => ⟨rfl, ag ⟨rfl, ag ⟨.inl rfl, ⟨(some Tk.beyond.v, y.2), rfl⟩, g⟩⟩⟩
 | out o =>
  refine af <| aD <| du (t := .out o) <| ad rfl ⟨rfl, ag ⟨rfl, ?_⟩⟩
  refine af <| aD <| fS (t := .out o) <| ad rfl ⟨rfl, ?_⟩
  refine af <| aO <| aC <| aa <| ad rfl <| aa <| ad rfl <| ae <| (pA R₁ ht₁ (by omega)).mono fun v H₂ q => ⟨rfl, ?_⟩
  obtain ⟨l, us, rfl, hl, hlu, hu, x, hll⟩ := q
  have R₂ := R₁.ext x
  have fl : Free K l := R₁.new_free hll
  refine af <| aq <| aC <| aa <| ad rfl <| aa <| dF (α := Tk) (β := Option V) (xs := us) (val := Tk.v) (p := Tk.isS) (em := Tk.v) (mk := fun y => [none, y]) (y := none) (by omega) rfl <|
   bK <| ad rfl <| bP hl fun s hs hok => ⟨hs, hok, fun t ξ y H' x' => ⟨some t.v, rfl, fun B hB => du (t := t) <| ad rfl ⟨rfl, by rw [Bool.false_xor]; exact hB⟩, fun ξ P hP => ad rfl hP⟩, ae ?_⟩
  have x₂ : Ext H₂ (H₂ ++ [MObj.list ((us.filter Tk.isS).map Tk.v)]) := .app
  refine (gF (R₂.ext x₂) (ts := us.filter Tk.isS) aj (Nat.le_trans (List.length_filter_le _ _) (by omega))).mono fun ξ H₃ g => ⟨rfl, ?_⟩
  obtain ⟨S₃, R₃, fr₃, d₃⟩ := g.start x₂
  have hl₃ := fr₃.get hl fl
  refine af <| aq <| aC <| aa <| R₃.kept rfl <| aa <| dF (α := Tk) (β := Option V) (xs := us) (val := Tk.v) (p := fun ξ => true) (em := fun t => fv (.kept t.inn o)) (mk := fun y => [none, y, some (Tk.out o).v]) (y := none) (by omega) rfl <|
   bK <| ad rfl <| bP hl₃ fun s hs hok => ⟨hs, hok, fun t ξ y H' x' => ⟨some t.v, rfl, fun B hB => c9 hB, fun ξ P hP => aB <| aa <| ok_innB (t := t) rfl <| aa <| ak <| ad rfl <| ok_C <| gi <| ae ⟨lim2, hP⟩⟩, ae ?_⟩
  have ef : us.filter (fun ξ => true) = us := List.filter_eq_self.mpr fun ξ ξ => rfl
  have em : us.map (fun t => fv (.kept t.inn o)) = (us.map fun t => Fact.kept t.inn o).map fv := by rw [List.map_map]; rfl
  rw [ef, em]
  refine (hM (c := .kept) (gs := us.map fun t => Fact.kept t.inn o) (R₃.ext .app) aj (R₃.new_free (Nat.le_refl _)) (fun f hf => by obtain ⟨t, ξ, rfl⟩ := List.mem_map.mp hf; rfl) (by rw [List.length_map]; omega)).mono fun ξ H₄ g => ?_
  refine ⟨rfl, ag ⟨rfl, ?_⟩⟩
  refine af <| aD <| iU <| lS (t := .out o) <| ad rfl ⟨rfl, ?_⟩
  refine iU <| iB <| du (t := .out o) <| ad rfl ⟨rfl, ?_⟩
  refine c9 ?_
  refine ag ⟨rfl, ag ⟨.inl rfl, ⟨(some (Tk.out o).v, some (.ref l)), rfl⟩, ?_⟩⟩
  obtain ⟨S₄, R₄, fr₄, d₄⟩ := g.start .app
  refine ⟨S₄, R₄, x.frB.trans (fr₃.trans fr₄), d₃.trans d₄ (fun τ hs h => ⟨Lk.parts.mpr fun u hu' => ?_, fun f hf => ?_⟩) fun c d t ht' => ⟨d _ (List.mem_map.mpr ⟨t, (hu t).mpr ht', rfl⟩), fun hs => Lk.parts.mp c t (List.mem_filter.mpr ⟨(hu t).mpr ht', by cases t <;> first | rfl | exact hs.elim⟩)⟩⟩
  ·obtain ⟨h1, h2⟩ := List.mem_filter.mp hu'
   exact (h u (((hu u).mp h1).mono hs fun ξ h => h)).2 (by cases u <;> first | trivial | cases h2)
  ·obtain ⟨t, h1, rfl⟩ := List.mem_map.mp hf
   exact (h t (((hu t).mp h1).mono hs fun ξ h => h)).1
 | site s =>
  refine af <| aD <| du (t := .site s) <| ad rfl ⟨rfl, ?_⟩
  have ap : allP (([.a, .b, .c, .d] : List Site).map fun s => (Key.p (Cont.ins s).nm, V.ref (K.at_ (.ins s)))) = true := rfl
  have xa : Ext H₁ (H₁ ++ [MObj.list []]) := .app
  refine af <| aq <| aC <| aa <| bn <| R₁.inside rfl <| b8 R₁.is <| aa <| ak <| ad rfl <| ok_C <| dl <| aa <| aF <| ae ⟨Nat.zero_le _, ae <| jt (xa.isD R₁.is) (p := .str s.str) rfl ap (show 4 ≤ lim by decide) (fun v hv => ?_) fun hv => by rw [R₁.isGet s] at hv; cases hv⟩
  rw [R₁.isGet s] at hv
  cases hv
  have e1 := tk_fv (.ins s) (p := true) rfl ts
  have ht₂ := xa.get ht₁
  rw [e1] at ht₂
  refine aa <| ad rfl <| ae <| (hM (R₁.ext xa) (c := .ins s) (gs := ts.map (Cont.ins s).of) ht₂ ft (fun f hf => by obtain ⟨t, ξ, rfl⟩ := List.mem_map.mp hf; rfl) (by rw [List.length_map]; omega)).mono fun ξ H₂ g => ⟨rfl, ag ⟨rfl, ?_⟩⟩
  obtain ⟨S₂, R₂, fr₂, d₂⟩ := g.start xa
  have ht₃ := fr₂.get ht₁ ft
  have d₂' : Doing (fun τ => ∀ u, u ∈ ts → τ (.ins s u)) S₁ S₂ := d₂.conv (fun τ ξ h f hf => by obtain ⟨t, ht, rfl⟩ := List.mem_map.mp hf; exact h t ht) fun h u hu => h _ (List.mem_map.mpr ⟨u, hu, rfl⟩)
  refine af <| aD <| fS (t := .site s) <| ad rfl ⟨rfl, ag ⟨rfl, ?_⟩⟩
  refine af <| aD <| iU <| lS (t := .site s) <| ad rfl ⟨rfl, iU <| iB <| du (t := .site s) <| ad rfl ⟨rfl, iB <| aR <| ak <| ak <| ad rfl <| ok_C <| dl <| R₂.gone rfl <| R₂.inGone fun b hb => ⟨_, rfl, ?_⟩⟩⟩
  cases b with
  | true =>
   refine c9 <| af <| aq <| aC <| aa <| ad rfl <| aa <| ad rfl <| ae <| (gF R₂ ht₃ (by omega)).mono fun ξ H₃ g => ⟨rfl, ag ⟨rfl, ag ⟨.inl rfl, ⟨(some (Tk.site s).v, y.2), rfl⟩, ?_⟩⟩⟩
   obtain ⟨S₃, R₃, fr₃, d₃⟩ := g
   have d₃' : Doing (fun τ => τ (.gone s) → Lk τ (· ∈ ts)) S₂ S₃ := d₃.conv (fun τ hs h => h (hs _ (hb.mp rfl))) fun h ξ => h
   exact ⟨S₃, R₃, fr₂.trans fr₃, d₂'.and d₃'⟩
  | false =>
   have hng : ¬ S₂ (.gone s) := fun q => absurd (hb.mpr q) (by decide)
   refine c9 <| ag ⟨rfl, ag ⟨.inl rfl, ⟨(some (Tk.site s).v, y.2), rfl⟩, ?_⟩⟩
   exact ⟨S₂, R₂, fr₂, d₂'.and (Doing.refl (C := fun τ => τ (.gone s) → Lk τ (· ∈ ts)) fun q => absurd q hng)⟩
end
set_option genInjectivity false in
structure TB where
 td : Nat
 lv : Nat
 kp : Nat
 tl : Nat
 t : Bool → Nat
structure TBook (K : BFix) (G : TB) (H : MH) (W : Told) : Prop where
 td : IsD H G.td [(.p (.str "leaks"), .ref G.lv), (.p (.str "kept"), .ref G.kp), (.p (.str "told"), .ref G.tl)]
 lv : H[G.lv]? = some (.list (W.leaks.map fun i => V.int (lo i)))
 kp : H[G.kp]? = some (.list (W.kept.map fun p => V.tup [.int p.1.int, .int (lo p.2)]))
 tl : H[G.tl]? = some (.list [.ref (G.t false), .ref (G.t true)])
 t : ∀ b, H[G.t b]? = some (.list ((W.t b).map fun j => V.int (ii j)))
 flv : Free K G.lv
 fkp : Free K G.kp
 ftl : Free K G.tl
 ft : ∀ b, Free K (G.t b)
 ftd : Free K G.td
section
variable {K : BFix} {G : TB} {W : Told} {H H' H'' : MH} {S S' : St} {P : V → MH → Prop} {B : Bool → MH → Prop} {T : Fl × Loc → MH → Prop} {loc : Loc}
theorem TBook.fr (r : TBook K G H W) (f : FrB K H H') : TBook K G H' W := {
 td := by obtain ⟨n, e⟩ := r.td; exact ⟨n, f.get e r.ftd⟩
 lv := f.get r.lv r.flv
 kp := f.get r.kp r.fkp
 tl := f.get r.tl r.ftl
 t := fun b => f.get (r.t b) (r.ft b)
 flv := r.flv
 fkp := r.fkp
 ftl := r.ftl
 ft := r.ft
 ftd := r.ftd }
theorem TBook.leaks (r : TBook K G H W) {i : Nat} (hi : loc[i]? = some (some (.ref G.td))) (h : P (.ref G.lv) H) : Ok (e2 ah (eLoc i) (eC (.str "leaks")) loc) H P := ak <| ad hi <| ok_C <| bw r.td (p := .str "leaks") rfl rfl rfl h
theorem TBook.kept (r : TBook K G H W) {i : Nat} (hi : loc[i]? = some (some (.ref G.td))) (h : P (.ref G.kp) H) : Ok (e2 ah (eLoc i) (eC (.str "kept")) loc) H P := ak <| ad hi <| ok_C <| bw r.td (p := .str "kept") rfl rfl rfl h
theorem TBook.told (r : TBook K G H W) {i : Nat} (hi : loc[i]? = some (some (.ref G.td))) (h : P (.ref G.tl) H) : Ok (e2 ah (eLoc i) (eC (.str "told")) loc) H P := ak <| ad hi <| ok_C <| bw r.td (p := .str "told") rfl rfl rfl h
theorem TBook.place (r : TBook K G H W) {b : Bool} (h : P (.ref (G.t b)) H) : Ok (ah (.ref G.tl) (.int (oi b))) H P := by
 cases b
 ·exact b7 (i := 0) r.tl (by decide) rfl h
 ·exact b7 (i := 1) r.tl (by decide) rfl h
noncomputable def opB (r : Bool → Fin 8) : List V := [.int (((r false).val : Nat) : Int), .int (((r true).val : Nat) : Int)]
theorem ok_handB (R : Book K H S) {r : Bool → Fin 8} {td lr lg : Nat} (hr : H[lr]? = some (.list (opB r)))
  (h : ∀ lh ls us H', Hand H' lh ls us → Ext H H' → (∀ b, (us b).length ≤ 14) → (∀ b t, t ∈ us b ↔ hU r S b t) → H.length ≤ lh → (∀ b, H.length ≤ ls b) → P (.ref lh) H') :
  Ok (cQ (itV (eLoc 2)) [none, none, none, some 0] (aT 1) (eC true) (cS (eL dX (ac (eLoc 3) (ac (e2 ah (e2 ah (eLoc 3) (eC (.str "held"))) (eLoc 1)) (lNil))))) (some (.ref K.bk) :: some (.ref td) :: some (.ref lr) :: some (.ref lg) :: loc)) H P := by
 have x₀ : Ext H (H ++ [MObj.list []]) := .app
 have turn : ∀ (H₁ : MH) (b : Bool) (Q : V → MH → Prop), Ext H H₁ → (∀ (l : Nat) (us : List Tk) (H₂ : MH), H₂[l]? = some (.list (us.map Tk.v)) → us.length ≤ 14 → (∀ t, t ∈ us ↔ hU r S b t) → Ext H₁ H₂ → H₁.length ≤ l → Q (.ref l) H₂) →
   Ok (eL dX (ac (eLoc 3) (ac (e2 ah (e2 ah (eLoc 3) (eC (.str "held"))) (eLoc 1)) (lNil))) [none, some (.int (((r b).val : Nat) : Int)), none, some (.ref K.bk)]) H₁ Q := by
  intro H₁ b Q x k
  have R₁ := R.ext x
  obtain ⟨ts, hts, nd, mt⟩ := R₁.toks (c := .held (r b)) (p := false) rfl
  have h7 := d9 nd
  refine aC <| aa <| ad rfl <| aa <| ak <| R₁.held rfl <| ad rfl <| R₁.reg <| ae <| (pA R₁ hts (Nat.le_trans h7 (by decide))).mono fun v H₂ g => ?_
  obtain ⟨l, us, rfl, hl, hlu, hu, x₂, hle⟩ := g
  refine k l us H₂ hl (Nat.le_trans hlu (Nat.add_le_add_right h7 7)) (fun t => ?_) x₂ hle
  rw [hu]
  exact ⟨fun q => Reach.mono (fun ξ h => h) (fun t h => (mt t).mp h) q, fun q => Reach.mono (fun ξ h => h) (fun t h => (mt t).mpr h) q⟩
 refine hK <| bK <| ad rfl <| bh hr ?_
 have l0 : (H ++ [MObj.list []]).length = H.length + 1 := by simp
 refine jx ⟨x₀.get hr, _, rfl, c9 ⟨rfl, fV <| turn _ false _ x₀ fun l us H₂ hl nd hu x hle => ⟨[], x.get aj, by decide, ?_⟩⟩⟩
 have e₂ : Ext H (H₂.set H.length (.list ([] ++ [.ref l]))) := (x₀.trans x).set (Nat.le_refl _)
 have hl2' : H.length < l := Nat.lt_of_lt_of_le (Nat.lt_of_lt_of_eq (Nat.lt_succ_self _) l0.symm) hle
 have hl2 := Nat.ne_of_lt hl2'
 have g₂ : (H₂.set H.length (.list ([] ++ [.ref l])))[H.length]? = some (.list [.ref l]) := cD (x.get aj)
 have k₂ : (H₂.set H.length (.list ([] ++ [.ref l])))[l]? = some (.list (us.map Tk.v)) := by rw [List.getElem?_set_ne hl2]; exact hl
 generalize H₂.set H.length (.list ([] ++ [.ref l])) = H₂' at e₂ g₂ k₂ ⊢
 refine ⟨e₂.get hr, _, rfl, c9 ⟨rfl, fV <| turn _ true _ e₂ fun l' us' H₃ hl' nd' hu' x' hle' => ⟨[.ref l], x'.get g₂, show 1 < lim by decide, ?_⟩⟩⟩
 have e₃ : Ext H (H₃.set H.length (.list ([.ref l] ++ [.ref l']))) := (e₂.trans x').set (Nat.le_refl _)
 have lt₂ := bA g₂
 have hl3' : H.length < l' := Nat.lt_of_lt_of_le lt₂ hle'
 have hl3 := Nat.ne_of_lt hl3'
 refine ⟨e₃.get hr, h H.length (fun b => bif b then l' else l) (fun b => bif b then us' else us) _ ⟨cD (x'.get g₂), fun b => ?_⟩ e₃ (fun b => ?_) (fun b t => ?_) (Nat.le_refl _) fun b => ?_⟩
 ·cases b
  ·show (H₃.set H.length _)[l]? = _
   rw [List.getElem?_set_ne hl2]; exact x'.get k₂
  ·show (H₃.set H.length _)[l']? = _
   rw [List.getElem?_set_ne hl3]; exact hl'
 ·cases b
  ·exact nd
  ·exact nd'
 ·cases b
  ·exact hu t
  ·exact hu' t
 ·cases b
  ·exact Nat.le_of_lt hl2'
  ·exact Nat.le_of_lt hl3'
theorem Hand.frB {lh : Nat} {ls : Bool → Nat} {us : Bool → List Tk} (h : Hand H lh ls us) (x : FrB K H H') (f : Free K lh) (fs : ∀ b, Free K (ls b)) : Hand H' lh ls us := ⟨x.get h.top f, fun b => x.get (h.sub b) (fs b)⟩
noncomputable def bLoc (K : BFix) (td lr lg lh : Nat) (y : Nat → Option V) : Loc := [some (.ref K.bk), some (.ref td), some (.ref lr), some (.ref lg), y 4, some (.ref lh), y 6, y 7, y 8, y 9, none, none, none, none]
noncomputable def zA (v : V) (y : Nat → Option V) : Nat → Option V
 | 4 => some v
 | j => y j
noncomputable def zB (v w : V) (y : Nat → Option V) : Nat → Option V
 | 6 => some v
 | 7 => some w
 | j => y j
noncomputable def zC (v w : V) (y : Nat → Option V) : Nat → Option V
 | 8 => some v
 | 9 => some w
 | j => y j
theorem ok_lt2 {i : Nat} {o : Option Bool} (hi : loc[i]? = some (some (.int (lo o)))) (p : B o.isSome H) : Ok (bV (e2 mLt (eLoc i) (eC (.int 2))) loc) H B := by
 refine aR <| ak <| ad hi <| ok_C <| kF ⟨_, rfl, ?_⟩
 rcases o with _ | (_ | _) <;> exact p
theorem jK (R : Book K H S) (TF : TBook K G H W) (hW : W.Ok) {r : Bool → Fin 8} {lr lg : Nat} (hr : H[lr]? = some (.list (opB r))) {res : List (Bool × Fin 8)} (hres : b9 0 (res.map fun q => V.int ((q.2.val : Nat) : Int)) = res.map fun q => V.tup [.int (oi q.1), .int ((q.2.val : Nat) : Int)])
  (hg : H[lg]? = some (.list (res.map fun q => V.int ((q.2.val : Nat) : Int)))) (fg : Free K lg) : Ok (cc [.ref K.bk, .ref G.td, .ref lr, .ref lg]) H fun ξ H' => GoB K (Fol W r res) H S H' := by
 refine a9 rfl <| af <| aO <| ok_handB R hr fun lh ls us H₁ hh x₁ nd hu hlh hls => ⟨rfl, ?_⟩
 have R₁ := R.ext x₁
 have TF₁ := TF.fr x₁.frB
 have fh : Free K lh := R.new_free hlh
 have fs : ∀ b, Free K (ls b) := fun b => R.new_free (hls b)
 have h7 : ∀ b, (us b).length ≤ 400 := fun b => Nat.le_trans (nd b) (by decide)
 have hUe : (fun b t => t ∈ us b) = hU r S := funext fun b => funext fun t => propext (hu b t)
 refine af <| aS <| TF₁.leaks rfl ⟨rfl, TF₁.lv, ?_⟩
 refine R₁.each (α := Option Bool) (β := Nat → Option V) (C := fun i τ => ∀ b, i = some b → Lk τ (· ∈ us b)) (mk := bLoc K G.td lr lg lh) (fun H' fr => (TF₁.fr fr).lv) (fun i ξ y H' S' R' fr => ⟨bLoc K G.td lr lg lh (zA (.int (lo i)) y), rfl, ?_⟩) (fun ξ => none) fun y₂ H₂ g₂ => ⟨rfl, ?_⟩
 ·have hh' := hh.frB fr fh fs
  refine af <| aD <| ok_lt2 (o := i) rfl ?_
  cases i with
  | none => exact ag ⟨rfl, ag ⟨.inl rfl, ⟨zA _ y, rfl⟩, .skip R' fun b e => by cases e⟩⟩
  | some b =>
   exact af <| aq <| aC <| aa <| ad rfl <| aa <| ak <| ad rfl <| ad rfl <| hh'.item (b := b) <| ae <| (gF R' (hh'.sub b) (Nat.le_trans (h7 b) (by decide))).mono fun ξ H'' g => ⟨rfl, ag ⟨rfl, ag ⟨.inl rfl, ⟨zA _ y, rfl⟩, g.conv (fun τ ξ h => h b rfl) fun h b' e => by cases e; exact h⟩⟩⟩
 obtain ⟨S₂, R₂, fr₂, d₂⟩ := g₂
 have hh₂ := hh.frB fr₂ fh fs
 have TF₂ := TF₁.fr fr₂
 have hg₂ := fr₂.get (x₁.get hg) fg
 refine af <| aS <| TF₂.kept rfl ⟨rfl, TF₂.kp, ?_⟩
 refine R₂.each (α := Inr × Option Bool) (β := Nat → Option V) (C := fun p τ => ∀ b, p.2 = some b → ∀ g ∈ us b, Pt τ (selI (fun b t => t ∈ us b) p.1) g) (mk := bLoc K G.td lr lg lh) (fun H' fr => (TF₂.fr fr).kp) (fun p ξ y H' S' R' fr => ⟨bLoc K G.td lr lg lh (zB (.int p.1.int) (.int (lo p.2)) y), rfl, ?_⟩) y₂ fun y₃ H₃ g₃ => ⟨rfl, ?_⟩
 ·have hh' := hh₂.frB fr fh fs
  obtain ⟨i, o⟩ := p
  refine af <| aD <| ok_lt2 (o := o) rfl ?_
  cases o with
  | none => exact ag ⟨rfl, ag ⟨.inl rfl, ⟨zB _ _ y, rfl⟩, .skip R' fun b e => by cases e⟩⟩
  | some b =>
   have put : ∀ (H₄ : MH) (l : Nat) (ts : List Tk), Ext H' H₄ → H₄[l]? = some (.list (ts.map Tk.v)) → Free K l → ts.length ≤ 400 → (∀ t, t ∈ ts ↔ selI (fun b t => t ∈ us b) i t) → Ok (fe [.ref K.bk, .ref (ls b), .ref l]) H₄ fun ξ H₅ => GoB K (fun τ => ∀ b', some b = some b' → ∀ g ∈ us b', Pt τ (selI (fun b t => t ∈ us b) i) g) H' S' H₅ := by
    intro H₄ l ts x hl hf hlen hts
    have e : (fun t => t ∈ ts) = selI (fun b t => t ∈ us b) i := funext fun t => propext (hts t)
    refine (qb (R'.ext x) (x.get (hh'.sub b)) (fs b) hl hf hlen).mono fun ξ H₅ g => ?_
    rw [e] at g
    exact (g.start x).conv (fun τ ξ h => h b rfl) fun h b' eb => by cases eb; exact h
   have key01 : bz [.int 0, .int 1] = some [Key.p (.int 0), Key.p (.int 1)] := by
    exact eD rfl (eD rfl rfl (eT (some true))) (eT (some false))
   have key2 : Key.ok (.p (.int i.int)) = true := by rcases i with (_ | _) | _ | _ <;> decide +kernel
   refine af <| aq <| aC <| aa <| ad rfl <| aa <| ak <| ad rfl <| ad rfl <| hh'.item (b := b) <| aa <| bM <| aR <| ak <| ad rfl <| aF <| aa <| ok_C <| aa <| ok_C <| ae ⟨lim2, kN aj key01 (k := .p (.int i.int)) rfl key2 ⟨_, rfl, ?_⟩⟩
   have xl : Ext H' (H' ++ [MObj.list [.int 0, .int 1]]) := .app
   have hhl := hh'.ext xl
   cases i with
   | o b' =>
    have e : (false ^^ [Key.p (.int 0), Key.p (.int 1)].contains (Key.p (.int (Inr.o b').int))) = true := by cases b' <;> decide
    rw [e]
    exact ak <| ad rfl <| ad rfl <| hhl.item (b := b') <| ae <| (put _ (ls b') (us b') xl (hhl.sub b') (fs b') (h7 b') fun t => .rfl).mono fun ξ H'' g => ⟨rfl, ag ⟨rfl, ag ⟨.inl rfl, ⟨zB _ _ y, rfl⟩, g⟩⟩⟩
   | neg =>
    have e : (false ^^ [Key.p (.int 0), Key.p (.int 1)].contains (Key.p (.int Inr.neg.int))) = false := by decide
    rw [e]
    exact aF <| aa <| aB <| aa <| ok_C <| ae ⟨lim1, ae ⟨lim1, ae <| (put _ _ [.beyond] (xl.trans .app) aj ((R'.ext xl).new_free (Nat.le_refl _)) (by decide) fun t => by simp [selI]).mono fun ξ H'' g => ⟨rfl, ag ⟨rfl, ag ⟨.inl rfl, ⟨zB _ _ y, rfl⟩, g⟩⟩⟩⟩⟩
   | two =>
    have e : (false ^^ [Key.p (.int 0), Key.p (.int 1)].contains (Key.p (.int Inr.two.int))) = false := by decide
    rw [e]
    exact aF <| aa <| aB <| aa <| ok_C <| ae ⟨lim1, ae ⟨lim1, ae <| (put _ _ [.beyond] (xl.trans .app) aj ((R'.ext xl).new_free (Nat.le_refl _)) (by decide) fun t => by simp [selI]).mono fun ξ H'' g => ⟨rfl, ag ⟨rfl, ag ⟨.inl rfl, ⟨zB _ _ y, rfl⟩, g⟩⟩⟩⟩⟩
 obtain ⟨S₃, R₃, fr₃, d₃⟩ := g₃
 have hh₃ := hh₂.frB fr₃ fh fs
 have TF₃ := TF₂.fr fr₃
 have hg₃ := fr₃.get hg₂ fg
 refine af <| b5 <| iz <| aa <| ad rfl <| ae ?_
 refine ⟨.enum lg (res.map fun q => V.int ((q.2.val : Nat) : Int)), H₃, by unfold jM; dsimp only; rw [hg₃], ?_⟩
 show Ok (bt _ _ _ (b9 0 (res.map fun q => V.int ((q.2.val : Nat) : Int))) _) _ _
 rw [hres]
 refine R₃.each (α := Bool × Fin 8) (β := Nat → Option V) (C := fun q τ => ∀ j ∈ W.t q.1, ∀ t, selT (fun b t => t ∈ us b) j t → τ (.held q.2 t)) (mk := bLoc K G.td lr lg lh) (fun H' fr => fr.get hg₃ fg) (fun q ξ y H' S' R' fr => ⟨bLoc K G.td lr lg lh (zC (.int (oi q.1)) (.int ((q.2.val : Nat) : Int)) y), rfl, ?_⟩) y₃ fun y₄ H₄ g₄ => ⟨rfl, ag (.inr ⟨rfl, ?_⟩)⟩
 ·have TF' := TF₃.fr fr
  have hh' := hh₃.frB fr fh fs
  refine af <| aS <| ak <| TF'.told rfl <| ad rfl <| TF'.place (b := q.1) ⟨rfl, TF'.t q.1, ?_⟩
  refine R'.each (α := Option Bool) (β := Nat → Option V) (C := fun j τ => ∀ t, selT (fun b t => t ∈ us b) j t → τ (.held q.2 t)) (mk := fun y => bLoc K G.td lr lg lh (zC (.int (oi q.1)) (.int ((q.2.val : Nat) : Int)) y)) (fun H' fr => (TF'.fr fr).t q.1) (fun j ξ y H'' S'' R'' fr'' => ⟨bLoc K G.td lr lg lh (zC (.int (oi q.1)) (.int ((q.2.val : Nat) : Int)) (zA (.int (ii j)) y)), rfl, ?_⟩) y fun y' H'' g => ⟨rfl, ag ⟨.inl rfl, ⟨zC _ _ y', rfl⟩, g⟩⟩
  have hh'' := hh'.frB fr'' fh fs
  refine af <| aq <| aC <| aa <| ak <| R''.held rfl <| ad rfl <| R''.reg (r := q.2) <| aa <| bM <| aR <| ak <| ad rfl <| dR (i := 1) <| ok_C ⟨rfl, gG (eT j) (by decide +kernel) ⟨_, rfl, ?_⟩⟩
  have add : ∀ (H₄ : MH) (l : Nat) (ts : List Tk), Ext H'' H₄ → H₄[l]? = some (.list (ts.map Tk.v)) → Free K l → ts.length ≤ 400 → (∀ t, t ∈ ts ↔ selT (fun b t => t ∈ us b) j t) → Ok (bq [.ref (K.at_ (.held q.2)), .ref l]) H₄ fun ξ H₅ => GoB K (fun τ => ∀ t, selT (fun b t => t ∈ us b) j t → τ (.held q.2 t)) H'' S'' H₅ := by
   intro H₄ l ts x hl hf hlen hts
   rw [tk_fv (.held q.2) (p := false) rfl ts] at hl
   refine (hM (R''.ext x) (c := .held q.2) (gs := ts.map (Cont.held q.2).of) hl hf (fun f hf => by obtain ⟨t, ξ, rfl⟩ := List.mem_map.mp hf; rfl) (by rw [List.length_map]; omega)).mono fun ξ H₅ g => ?_
   exact (g.start x).conv (fun τ ξ h f hf => by obtain ⟨t, ht, rfl⟩ := List.mem_map.mp hf; exact h t ((hts t).mp ht)) fun h t ht => h _ (List.mem_map.mpr ⟨t, (hts t).mpr ht, rfl⟩)
  cases j with
  | none =>
   exact aF <| aa <| aB <| aa <| ok_C <| ae ⟨lim1, ae ⟨lim1, ae <| (add _ _ [.beyond] .app aj (R''.new_free (Nat.le_refl _)) (by decide) fun t => by simp [selT]).mono fun ξ H₅ g => ⟨rfl, ag ⟨.inl rfl, ⟨zA _ y, rfl⟩, g⟩⟩⟩⟩
  | some b =>
   have hd : decide (ii (some b) = -1) = false := by cases b <;> decide
   rw [hd]
   exact ak <| ad rfl <| ad rfl <| hh''.item (b := b) <| ae <| (add _ _ (us b) .refl (hh''.sub b) (fs b) (h7 b) fun t => .rfl).mono fun ξ H₅ g => ⟨rfl, ag ⟨.inl rfl, ⟨zA _ y, rfl⟩, g⟩⟩
 ·obtain ⟨S₄, R₄, fr₄, d₄⟩ := g₄
  refine ⟨S₄, R₄, x₁.frB.trans (fr₂.trans (fr₃.trans fr₄)), ?_⟩
  have d : Doing (FolU W (fun b t => t ∈ us b) res) S S₄ := (d₂.trans (d₃.and d₄) (E := FolU W (fun b t => t ∈ us b) res) (fun τ ξ h => ⟨h.1, h.2.1, h.2.2⟩) fun c d => ⟨c, d.1, d.2⟩)
  rw [hUe] at d
  exact d.conv (fun τ hs f => Fol.conv1 hs f) fun h => h
end
inductive Wo where
 | call | defer | lit | slit | scall | fcall | vcall | go | vgo | sdefer
noncomputable def Wo.str : Wo → Str
 | .call => "call"
 | .defer => "defer"
 | .lit => "literal"
 | .slit => "strange literal"
 | .scall => "strange call"
 | .fcall => "face call"
 | .vcall => "value call"
 | .go => "go"
 | .vgo => "value go"
 | .sdefer => "strange defer"
noncomputable def Deed (W : Told) (r : Bool → Fin 8) : Wo → St → Prop
 | .call => Fol W r (cz true)
 | .defer => Fol W r (cz false)
 | .lit => Lit W r
 | .slit => LitU r
 | .scall => Unk r false (cz true)
 | .fcall => Unk r true (cz true)
 | .vcall => Unk r false (cz true)
 | .go => Unk r false (cz false)
 | .vgo => Unk r true (cz false)
 | .sdefer => Unk r false (cz false)
theorem Wo.key_ok (w : Wo) : Key.ok (.p (.str w.str)) = true := by cases w <;> decide +kernel
section
variable {K : BFix} {G : TB} {W : Told} {H H' H'' : MH} {S S' : St} {P : V → MH → Prop} {B : Bool → MH → Prop} {T : Fl × Loc → MH → Prop} {loc : Loc}
theorem fU {w : Wo} {l : Nat} {ws : List Wo} (e : H[l]? = some (.list (ws.map fun w => V.str w.str))) (h : B (ws.map Wo.str |>.contains w.str) H) : Ok (mIn false (.str w.str) (.ref l)) H fun v H' => ∃ b, v = .bool b ∧ B b H' := by
 have e1 : (ws.map fun w => V.str w.str) = (ws.map fun w => Key.p (.str w.str)).map .ofKey := by rw [List.map_map]; rfl
 rw [e1] at e
 refine kN e (cJ fun k hk => by obtain ⟨x, ξ, rfl⟩ := List.mem_map.mp hk; exact x.key_ok) (k := .p (.str w.str)) rfl w.key_ok ⟨_, rfl, ?_⟩
 have : (ws.map fun w => Key.p (.str w.str)).contains (.p (.str w.str)) = (ws.map Wo.str).contains w.str := by
  rw [Bool.eq_iff_iff, List.contains_iff_mem, List.contains_iff_mem]
  constructor
  ·intro h
   obtain ⟨x, hx, e⟩ := List.mem_map.mp h
   simp only [Key.p.injEq, Prim.str.injEq] at e
   exact List.mem_map.mpr ⟨x, hx, e⟩
  ·intro h
   obtain ⟨x, hx, e⟩ := List.mem_map.mp h
   exact List.mem_map.mpr ⟨x, hx, by rw [e]⟩
 rw [this, Bool.false_xor]
 exact h
theorem rr (W : Told) : ∃ L : List Inr, ((W.t false).map fun j => V.int (ii j)) ++ ((W.t true).map fun j => V.int (ii j)) ++ ((W.kept.filter fun p => p.2.isNone).map fun p => V.int p.1.int) = L.map (fun i => V.int i.int) ∧ ∀ b, Inr.o b ∈ L ↔ mr W b := by
 refine ⟨(W.t false).map gr ++ (W.t true).map gr ++ (W.kept.filter fun p => p.2.isNone).map (·.1), ?_, fun b => ?_⟩
 ·rw [List.map_append, List.map_append, List.map_map, List.map_map, List.map_map]
  congr 1
  congr 1
  ·exact List.map_congr_left fun j ξ => by show _ = V.int (gr j).int; rw [jj]
  ·exact List.map_congr_left fun j ξ => by show _ = V.int (gr j).int; rw [jj]
 ·have ht : ∀ a, Inr.o b ∈ (W.t a).map gr ↔ some b ∈ W.t a := fun a => by
   rw [List.mem_map]
   constructor
   ·rintro ⟨j, hj, e⟩
    cases j with
    | none => cases e
    | some b' => cases e; exact hj
   ·intro h; exact ⟨_, h, rfl⟩
  have hk : Inr.o b ∈ (W.kept.filter fun p => p.2.isNone).map (·.1) ↔ (Inr.o b, none) ∈ W.kept := by
   rw [List.mem_map]
   constructor
   ·rintro ⟨⟨i, o⟩, hj, e⟩
    obtain ⟨h1, h2⟩ := List.mem_filter.mp hj
    cases o with
    | some ξ => cases h2
    | none => obtain rfl : i = .o b := e; exact h1
   ·intro q
    exact ⟨(.o b, none), List.mem_filter.mpr ⟨q, rfl⟩, rfl⟩
  rw [List.mem_append, List.mem_append, ht, ht, hk]
  unfold mr
  constructor
  ·rintro ((h | h) | h)
   ·exact .inl ⟨_, h⟩
   ·exact .inl ⟨_, h⟩
   ·exact .inr h
  ·rintro (⟨a, h⟩ | h)
   ·cases a
    ·exact .inl (.inl h)
    ·exact .inl (.inr h)
   ·exact .inr h
theorem kz {r : Bool → Fin 8} {lr : Nat} (hr : H[lr]? = some (.list (opB r))) {b : Bool} (h : P (.int (((r b).val : Nat) : Int)) H) : Ok (ah (.ref lr) (.int (oi b))) H P := by
 cases b
 ·exact b7 (i := 0) hr (by decide) rfl h
 ·exact b7 (i := 1) hr (by decide) rfl h
noncomputable def Wo.isCD : Wo → Bool
 | .call => true
 | .defer => true
 | _ => false
noncomputable def Wo.isLS : Wo → Bool
 | .lit => true
 | .slit => true
 | _ => false
noncomputable def Wo.isFV : Wo → Bool
 | .fcall => true
 | .vgo => true
 | _ => false
noncomputable def Wo.isUC : Wo → Bool
 | .scall => true
 | .fcall => true
 | .vcall => true
 | _ => false
theorem Wo.in1 (w : Wo) : ([Wo.call, .defer].map Wo.str).contains w.str = w.isCD := by cases w <;> decide
theorem Wo.in2 (w : Wo) : ([Wo.lit, .slit].map Wo.str).contains w.str = w.isLS := by cases w <;> decide
theorem Wo.in3 (w : Wo) : ([Wo.fcall, .vgo].map Wo.str).contains w.str = w.isFV := by cases w <;> decide
theorem Wo.in4 (w : Wo) : ([Wo.scall, .fcall, .vcall].map Wo.str).contains w.str = w.isUC := by cases w <;> decide
theorem nW (R : Book K H S) {r : Bool → Fin 8} {w : Wo} {lt td lr : Nat} {us : List Tk} {d : V} {y6 y7 y8 : Option V} (hu : H[lt]? = some (.list (us.map Tk.v))) (lu : us.length ≤ 14) (mu : (fun t => t ∈ us) = opX r S) {S₀ : St} {res : List (Bool × Fin 8)} (hres : res = cz w.isUC)
  (h : ∀ lc H', GoB K (Unk r w.isFV res) H S H' → T (.next, lc) H') :
  Ok (ai (aL (eL cW (ac (eLoc 0) (ac (e2 mAdd (eLoc 5) (eIf (bV (e2 (mIn false) (eLoc 3) (am (ac (eC (.str "face call")) (ac (eC (.str "value go")) (lNil)))))) (e2 ah (e2 ah (eLoc 0) (eC (.str "held"))) (eC (.int 3))) (am (lNil)))) (lNil)))))
 (ai (sIf (bV (e2 (mIn false) (eLoc 3) (am (ac (eC (.str "strange call")) (ac (eC (.str "face call")) (ac (eC (.str "value call")) (lNil)))))))
  (ai (sFor (itV (am (ac (eC (.int 6)) (ac (eC (.int 7)) (lNil))))) (aT 8)
  (ai (aL (eL bq (ac (e2 ah (e2 ah (eLoc 0) (eC (.str "held"))) (eLoc 8)) (ac (am (ac (av (ac (eC (.str "beyond")) (lNil))) (lNil))) (lNil)))))
 (sNil)))
 (sNil))
  (sNil))
 (sNil)) [some (.ref K.bk), some (.ref td), some d, some (.str w.str), some (.ref lr), some (.ref lt), y6, y7, y8, none, none, none, none, none]) H T := by
 obtain ⟨t3, h3, nd3, m3⟩ := R.toks (c := .held 3) (p := false) rfl
 have l3 := d9 nd3
 have last : ∀ (H₂ : MH), GoB K (fun τ => Lk τ (opX r τ) ∧ (w.isFV = true → Lk τ fun t => τ (.held 3 t))) H S H₂ → Ok (ai (sIf (bV (e2 (mIn false) (eLoc 3) (am (ac (eC (.str "strange call")) (ac (eC (.str "face call")) (ac (eC (.str "value call")) (lNil)))))))
  (ai (sFor (itV (am (ac (eC (.int 6)) (ac (eC (.int 7)) (lNil))))) (aT 8)
  (ai (aL (eL bq (ac (e2 ah (e2 ah (eLoc 0) (eC (.str "held"))) (eLoc 8)) (ac (am (ac (av (ac (eC (.str "beyond")) (lNil))) (lNil))) (lNil)))))
 (sNil)))
 (sNil))
  (sNil))
 (sNil) [some (.ref K.bk), some (.ref td), some d, some (.str w.str), some (.ref lr), some (.ref lt), y6, y7, y8, none, none, none, none, none]) H₂ T := by
  intro H₂ g
  obtain ⟨S₂, R₂, fr₂, d₂⟩ := g
  refine af <| aD <| aR <| ak <| ad rfl <| aF <| aa <| ok_C <| aa <| ok_C <| aa <| ok_C <| ae ⟨lim3, (fU (ws := [.scall, .fcall, .vcall]) (B := fun b H' => H' = H₂ ++ [.list [.str "strange call", .str "face call", .str "value call"]] ∧ b = w.isUC) aj ⟨rfl, w.in4⟩).mono fun v H' q => ?_⟩
  obtain ⟨b, rfl, rfl, rfl⟩ := q
  refine ⟨_, rfl, ?_⟩
  have x₃ : Ext H₂ (H₂ ++ [MObj.list [.str "strange call", .str "face call", .str "value call"]]) := .app
  subst hres
  cases hc : w.isUC with
  | false =>
   refine ag ⟨rfl, ag (h _ _ ?_)⟩
   exact ⟨S₂, R₂.ext x₃, fr₂.trans x₃.frB, by rw [hc]; exact d₂.conv (fun τ ξ h => ⟨h.1, h.2.1⟩) fun h => ⟨h.1, h.2, fun q hq => by cases hq⟩⟩
  | true =>
   rw [hc] at h
   have x₄ := x₃.trans (Ext.app (H := H₂ ++ [MObj.list [.str "strange call", .str "face call", .str "value call"]]) (t := [.list [.int 6, .int 7]]))
   refine af <| aS <| aF <| aa <| ok_C <| aa <| ok_C <| ae ⟨lim2, rfl, aj, ?_⟩
   have fz : Free K (H₂ ++ [MObj.list [.str "strange call", .str "face call", .str "value call"]]).length := (R₂.ext x₃).new_free (Nat.le_refl _)
   refine (R₂.ext x₄).each (α := Bool × Fin 8) (xs := cz true) (val := fun q => .int ((q.2.val : Nat) : Int)) (β := Option V) (C := fun q τ => τ (.held q.2 .beyond)) (mk := fun y => [some (.ref K.bk), some (.ref td), some d, some (.str w.str), some (.ref lr), some (.ref lt), y6, y7, y, none, none, none, none, none]) (fun H' fr => fr.get aj fz) (fun q ξ y H' S' R' fr => ⟨_, rfl, ?_⟩) y8 fun y H' g => ⟨rfl, ag ⟨rfl, ag (h _ _ ?_)⟩⟩
   ·refine af <| aq <| aC <| aa <| ak <| R'.held rfl <| ad rfl <| R'.reg (r := q.2) <| aa <| aF <| aa <| aB <| aa <| ok_C <| ae ⟨lim1, ae ⟨lim1, ae ?_⟩⟩
    refine (hM (R'.ext .app) (c := .held q.2) (gs := [.held q.2 .beyond]) aj (R'.new_free (Nat.le_refl _)) (fun f hf => by rw [List.mem_singleton.mp hf]; rfl) (by simp)).mono fun ξ H'' g => ?_
    refine ⟨rfl, ag ⟨.inl rfl, ⟨some (.int ((q.2.val : Nat) : Int)), rfl⟩, ?_⟩⟩
    exact (g.start .app).conv (fun τ ξ h f hf => by rw [List.mem_singleton.mp hf]; exact h) fun h => h _ (List.mem_singleton.mpr rfl)
   ·obtain ⟨S₄, R₄, fr₄, d₄⟩ := g.start x₄
    exact ⟨S₄, R₄, fr₂.trans fr₄, d₂.trans d₄ (fun τ ξ h => ⟨⟨h.1, h.2.1⟩, h.2.2⟩) fun a b => ⟨a.1, a.2, b⟩⟩
 refine af <| aq <| aC <| aa <| ad rfl <| aa <| ak <| ad rfl <| bM <| aR <| ak <| ad rfl <| aF <| aa <| ok_C <| aa <| ok_C <| ae ⟨lim2, (fU (ws := [.fcall, .vgo]) (B := fun b H' => H' = H ++ [.list [.str "face call", .str "value go"]] ∧ b = w.isFV) aj ⟨rfl, w.in3⟩).mono fun v H' q => ?_⟩
 obtain ⟨b, rfl, rfl, rfl⟩ := q
 refine ⟨_, rfl, ?_⟩
 have x₁ : Ext H (H ++ [MObj.list [.str "face call", .str "value go"]]) := .app
 have R₁ := R.ext x₁
 cases hc : w.isFV with
 | true =>
  refine ak <| R₁.held rfl <| ok_C <| R₁.reg (r := 3) <| fA (x₁.get hu) (x₁.get h3) (by simp only [List.length_map]; exact Nat.le_trans (show us.length + t3.length ≤ 100 by omega) (by decide)) ?_
  rw [← List.map_append]
  have x₂ := x₁.trans (Ext.app (H := H ++ [MObj.list [.str "face call", .str "value go"]]) (t := [.list ((us ++ t3).map Tk.v)]))
  refine ae <| (gF (R.ext x₂) aj (by rw [List.length_append]; omega)).mono fun ξ H₃ g => ⟨rfl, last _ ?_⟩
  refine (g.start x₂).conv (fun τ hs h => Lk.parts.mpr fun u hq => ?_) fun h => ⟨?_, fun ξ => ?_⟩
  ·rcases List.mem_append.mp hq with hq | hq
   ·have : opX r S u := by rw [← mu]; exact hq
    exact Lk.parts.mp h.1 u (this.mono hs)
   ·exact Lk.parts.mp (h.2 hc) u (hs _ ((m3 u).mp hq))
  ·rw [← mu]; exact h.mono fun t ht => List.mem_append.mpr (.inl ht)
  ·exact h.mono fun t ht => List.mem_append.mpr (.inr ((m3 t).mpr ht))
 | false =>
  refine aF <| ae ⟨Nat.zero_le _, ?_⟩
  have x₂ := x₁.trans (Ext.app (H := H ++ [MObj.list [.str "face call", .str "value go"]]) (t := [.list []]))
  refine fA (x₂.get hu) aj (by simp only [List.length_map, List.length_nil]; exact Nat.le_trans (show us.length + 0 ≤ 100 by omega) (by decide)) ?_
  rw [List.append_nil]
  have x₃ := x₂.trans (Ext.app (H := H ++ [MObj.list [.str "face call", .str "value go"]] ++ [.list []]) (t := [.list (us.map Tk.v)]))
  refine ae <| (gF (R.ext x₃) aj (by omega)).mono fun ξ H₃ g => ⟨rfl, last _ ?_⟩
  refine (g.start x₃).conv (fun τ hs h => h.1.mono fun t ht => ?_) fun h => ⟨?_, fun q => ?_⟩
  ·have : opX r S t := by rw [← mu]; exact ht
   exact this.mono hs
  ·rw [← mu]; exact h
  ·rw [hc] at q; cases q
noncomputable def dLoc (K : BFix) (td : Nat) (w : Wo) (lr lt : Nat) (deed : V) (y6 y7 y8 : Option V) : Loc := [some (.ref K.bk), some (.ref td), some deed, some (.str w.str), some (.ref lr), some (.ref lt), y6, y7, y8, none, none, none, none, none]
theorem ok_done (R : Book K H S) (TF : TBook K G H W) (hW : W.Ok) {r : Bool → Fin 8} {lr : Nat} {w : Wo} (hr : H[lr]? = some (.list (opB r))) (fr0 : Free K lr) : Ok (iD [.ref K.bk, .ref G.td, .tup [.str w.str, .ref lr]]) H fun ξ H' => GoB K (Deed W r w) H S H' := by
 obtain ⟨ts0, h0, nd0, m0⟩ := R.toks (c := .held (r false)) (p := false) rfl
 obtain ⟨ts1, h1, nd1, m1⟩ := R.toks (c := .held (r true)) (p := false) rfl
 have l0 := d9 nd0
 have l1 := d9 nd1
 refine a9 rfl <| af <| en <| ad rfl ⟨_, rfl, rfl, ?_⟩
 refine af <| aO <| ak <| ak <| R.held rfl <| ak <| ad rfl <| ok_C <| kz hr (b := false) <| R.reg <| ak <| R.held rfl <| ak <| ad rfl <| ok_C <| kz hr (b := true) <| R.reg <| fA h0 h1 (by simp only [List.length_map]; exact Nat.le_trans (show ts0.length + ts1.length ≤ 14 by omega) (by decide)) ⟨rfl, ?_⟩
 rw [← List.map_append]
 have x₁ : Ext H (H ++ [MObj.list ((ts0 ++ ts1).map Tk.v)]) := .app
 have hX : (fun t => t ∈ ts0 ++ ts1) = opX r S := funext fun t => propext (by
  rw [List.mem_append, m0, m1]
  constructor
  ·rintro (h | h)
   ·exact ⟨false, h⟩
   ·exact ⟨true, h⟩
  ·rintro ⟨b, h⟩
   cases b
   ·exact .inl h
   ·exact .inr h)
 have lX : (ts0 ++ ts1).length ≤ 14 := by rw [List.length_append]; omega
 have fX : Free K H.length := R.new_free (Nat.le_refl _)
 have gX := aj (H := H) (m := .list ((ts0 ++ ts1).map Tk.v))
 generalize hH1 : H ++ [MObj.list ((ts0 ++ ts1).map Tk.v)] = H₁ at x₁ gX
 generalize hlt : H.length = lt at gX fX
 have R₁ := R.ext x₁
 have TF₁ := TF.fr x₁.frB
 show Ok _ H₁ _
 refine aK <| aD <| aR <| ak <| ad rfl <| aF <| aa <| ok_C <| aa <| ok_C <| ae ⟨lim2, (fU (w := w) (ws := [.call, .defer]) (B := fun b H' => H' = H₁ ++ [.list [.str "call", .str "defer"]] ∧ b = w.isCD) aj ⟨rfl, w.in1⟩).mono fun v H' q => ?_⟩
 obtain ⟨b, rfl, rfl, rfl⟩ := q
 refine ⟨_, rfl, ?_⟩
 have x₂ : Ext H₁ (H₁ ++ [MObj.list [.str "call", .str "defer"]]) := .app
 have gX₂ := x₂.get gX
 have x₂' := x₁.trans x₂
 generalize H₁ ++ [MObj.list [.str "call", .str "defer"]] = H₂ at x₂ gX₂ x₂' ⊢
 have R₂ := R.ext x₂'
 have TF₂ := TF.fr x₂'.frB
 have hr₂ := x₂'.get hr
 have fol : ∀ (H₃ : MH) (lg : Nat) (bc : Bool), Ext H H₃ → H₃[lg]? = some (.list ((cz bc).map fun q => V.int ((q.2.val : Nat) : Int))) → Free K lg → Ok (cc [.ref K.bk, .ref G.td, .ref lr, .ref lg]) H₃ fun ξ H' => GoB K (Fol W r (cz bc)) H S H' := fun H₃ lg bc x hl hf =>
  (jK (R.ext x) (TF.fr x.frB) hW (x.get hr) (by cases bc <;> rfl) hl hf).mono fun ξ H' g => g.start x
 cases hcd : w.isCD with
 | true =>
  refine af <| aq <| aC <| aa <| ad rfl <| aa <| ad rfl <| aa <| ad rfl <| aa <| bM <| aR <| ak <| ad rfl <| ok_C <| bx w.key_ok gJ ⟨_, rfl, ?_⟩
  cases w <;> first | (exact absurd hcd (by decide)) | skip
  ·rw [show decide (Wo.call.str = "call") = true from by decide]
   exact aF <| aa <| ok_C <| aa <| ok_C <| ae ⟨lim2, ae <| (fol _ _ true (x₂'.trans .app) aj (R₂.new_free (Nat.le_refl _))).mono fun ξ H' g => ⟨rfl, aK <| fT <| .inl ⟨_, rfl, g⟩⟩⟩
  ·rw [show decide (Wo.defer.str = "call") = false from by decide]
   exact aF <| ae ⟨Nat.zero_le _, ae <| (fol _ _ false (x₂'.trans .app) aj (R₂.new_free (Nat.le_refl _))).mono fun ξ H' g => ⟨rfl, aK <| fT <| .inl ⟨_, rfl, g⟩⟩⟩
 | false =>
 refine ag ?_
 refine aK <| aD <| aR <| ak <| ad rfl <| aF <| aa <| ok_C <| aa <| ok_C <| ae ⟨lim2, (fU (w := w) (ws := [.lit, .slit]) (B := fun b H' => H' = H₂ ++ [.list [.str "literal", .str "strange literal"]] ∧ b = w.isLS) aj ⟨rfl, w.in2⟩).mono fun v H' q => ?_⟩
 obtain ⟨b, rfl, rfl, rfl⟩ := q
 refine ⟨_, rfl, ?_⟩
 have x₃ : Ext H₂ (H₂ ++ [MObj.list [.str "literal", .str "strange literal"]]) := .app
 have gX₃ := x₃.get gX₂
 have x₃' := x₂'.trans x₃
 generalize H₂ ++ [MObj.list [.str "literal", .str "strange literal"]] = H₃ at x₃ gX₃ x₃' ⊢
 have R₃ := R.ext x₃'
 cases hls : w.isLS with
 | false =>
  refine ag ?_
  refine nW R₃ (w := w) (r := r) (us := ts0 ++ ts1) (S₀ := S) gX₃ lX hX rfl fun lc H' g => .inr ⟨rfl, ?_⟩
  have g' := g.start x₃'
  cases w <;> first | (exact absurd hcd (by decide)) | (exact absurd hls (by decide)) | exact g'
 | true =>
  have xt : Ext H₃ (H₃ ++ [MObj.list [(Tk.site .d).v]]) := .app
  refine aK <| aq <| aC <| aa <| ad rfl <| aa <| aF <| aa <| aB <| aa <| ok_C <| aa <| ok_C <| ae ⟨lim2, ae ⟨lim1, aa <| ad rfl <| ae <| (qb (R₃.ext xt) (tg := [.site .d]) aj (R₃.new_free (Nat.le_refl _)) (xt.get gX₃) fX (by omega)).mono fun ξ H₄ g => ?_⟩⟩
  rw [hX] at g
  obtain ⟨S₄, R₄, fr₄', d₄⟩ := g.start xt
  have fr₄ : FrB K H H₄ := x₃'.frB.trans fr₄'
  have gX₄ := fr₄'.get gX₃ fX
  have dP : Doing (fun τ => Pt τ (opX r τ) (.site .d)) S S₄ := d₄.conv (fun τ hs h g hg => by rw [List.mem_singleton.mp hg]; exact h.anti fun t => opX.mono hs) fun h => h _ (List.mem_singleton.mpr rfl)
  have TF₄ := TF.fr fr₄
  have hr₄ := fr₄.get hr fr0
  have key_slit : Key.ok (.p (.str "strange literal")) = true := Wo.key_ok .slit
  refine aK <| aD <| aR <| ak <| ad rfl <| ok_C <| bx w.key_ok key_slit ⟨_, rfl, ?_⟩
  cases w <;> first | (exact absurd hls (by decide)) | skip
  ·rw [show decide (Wo.lit.str = "strange literal") = false from by decide]
   refine ag ?_
   have fol4 : ∀ (H₅ : MH) (lg : Nat), Ext H₄ H₅ → H₅[lg]? = some (.list []) → Free K lg → Ok (cc [.ref K.bk, .ref G.td, .ref lr, .ref lg]) H₅ fun ξ H' => GoB K (Fol W r []) H₄ S₄ H' := fun H₅ lg x hl hf =>
    (jK (R₄.ext x) (TF₄.fr x.frB) hW (x.get hr₄) (res := []) rfl hl hf).mono fun ξ H' g => g.start x
   refine aK <| aq <| aC <| aa <| ad rfl <| aa <| ad rfl <| aa <| ad rfl <| aa <| aF <| ae ⟨Nat.zero_le _, ae <| (fol4 _ _ .app aj (R₄.new_free (Nat.le_refl _))).mono fun ξ H₅ g => ?_⟩
   obtain ⟨S₅, R₅, fr₅, d₅⟩ := g
   have TF₅ := TF₄.fr fr₅
   have hr₅ := fr₅.get hr₄ fr0
   have l3 : ∀ b, (W.t b).length ≤ 3 := fun b => i5 (hW.t b)
   have lk := mv hW.kept
   have lfk : (W.kept.filter fun p => p.2.isNone).length ≤ 12 := Nat.le_trans (List.length_filter_le _ _) lk
   have l30 := l3 false
   have l31 := l3 true
   refine aK <| aO <| ak <| ak <| ak <| TF₅.told rfl <| ok_C <| TF₅.place (b := false) <| ak <| TF₅.told rfl <| ok_C <| TF₅.place (b := true) <| fA (TF₅.t false) (TF₅.t true) (by simp only [List.length_map]; exact Nat.le_trans (show (W.t false).length + (W.t true).length ≤ 100 by omega) (by decide)) ?_
   have xa : Ext H₅ (H₅ ++ [MObj.list (((W.t false).map fun j => V.int (ii j)) ++ ((W.t true).map fun j => V.int (ii j)))]) := .app
   have TFa := TF₅.fr xa.frB
   refine dF (α := Inr × Option Bool) (β := Option V × Option V) (xs := W.kept) (val := fun p => V.tup [.int p.1.int, .int (lo p.2)]) (p := fun p => p.2.isNone) (em := fun p => V.int p.1.int) (mk := fun y => [none, y.1, y.2]) (y := (none, none)) (by omega) rfl <|
    bK <| TFa.kept rfl <| bP TFa.kp fun s hs hok => ⟨hs, hok, fun p ξ y H' x' => ⟨(some (.int p.1.int), some (.int (lo p.2))), rfl, fun B hB => ?_, fun ξ P hP => ad rfl hP⟩, ?_⟩
   ·refine aR <| ak <| ad rfl <| ok_C <| ok_gt ⟨_, rfl, ?_⟩
    obtain ⟨i, o⟩ := p
    rcases o with _ | (_ | _) <;> exact hB
   ·have xb := xa.trans (Ext.app (H := H₅ ++ [MObj.list (((W.t false).map fun j => V.int (ii j)) ++ ((W.t true).map fun j => V.int (ii j)))]) (t := [.list ((W.kept.filter fun p => p.2.isNone).map fun p => V.int p.1.int)]))
    refine fA (Ext.app.get aj) aj (by simp only [List.length_append, List.length_map]; exact Nat.le_trans (show (W.t false).length + (W.t true).length + (W.kept.filter fun p => p.2.isNone).length ≤ 100 by omega) (by decide)) ?_
    obtain ⟨L, eL, mL⟩ := rr W
    rw [eL]
    have xc := xb.trans (Ext.app (H := H₅ ++ [MObj.list (((W.t false).map fun j => V.int (ii j)) ++ ((W.t true).map fun j => V.int (ii j)))] ++ [MObj.list ((W.kept.filter fun p => p.2.isNone).map fun p => V.int p.1.int)]) (t := [.list (L.map fun i => V.int i.int)]))
    have gl := aj (H := H₅ ++ [MObj.list (((W.t false).map fun j => V.int (ii j)) ++ ((W.t true).map fun j => V.int (ii j)))] ++ [MObj.list ((W.kept.filter fun p => p.2.isNone).map fun p => V.int p.1.int)]) (m := .list (L.map fun i => V.int i.int))
    have fl : Free K (H₅ ++ [MObj.list (((W.t false).map fun j => V.int (ii j)) ++ ((W.t true).map fun j => V.int (ii j)))] ++ [MObj.list ((W.kept.filter fun p => p.2.isNone).map fun p => V.int p.1.int)]).length := (R₅.ext xb).new_free (Nat.le_refl _)
    generalize (H₅ ++ [MObj.list (((W.t false).map fun j => V.int (ii j)) ++ ((W.t true).map fun j => V.int (ii j)))] ++ [MObj.list ((W.kept.filter fun p => p.2.isNone).map fun p => V.int p.1.int)]).length = ll at gl fl ⊢
    generalize (H₅ ++ [MObj.list (((W.t false).map fun j => V.int (ii j)) ++ ((W.t true).map fun j => V.int (ii j)))] ++ [MObj.list ((W.kept.filter fun p => p.2.isNone).map fun p => V.int p.1.int)] ++ [MObj.list (L.map fun i => V.int i.int)]) = H₆ at xc gl ⊢
    have R₆ := R₅.ext xc
    have hr₆ := xc.get hr₅
    refine aK <| b5 <| iz <| aa <| ok_C <| ae ⟨.range 0 2, H₆, rfl, ?_⟩
    show Ok (bt _ _ _ (([false, true] : List Bool).map fun b => V.int (oi b)) _) _ _
    refine R₆.each (α := Bool) (β := Option V) (C := fun b τ => mr W b → Lk τ fun t => τ (.held (r b) t)) (mk := fun y => [some (.ref K.bk), some (.ref G.td), some (.tup [.str Wo.lit.str, .ref lr]), some (.str Wo.lit.str), some (.ref lr), some (.ref lt), some (.ref ll), y, none, none, none, none, none, none]) (fun ξ ξ => trivial) (fun b ξ y H' S' R' fr => ⟨_, rfl, ?_⟩) none fun y H' g => ?_
    ·have gl' := fr.get gl fl
     have hr' := fr.get hr₆ fr0
     have eK : (L.map fun i => V.int i.int) = (L.map fun i => Key.p (.int i.int)).map .ofKey := by rw [List.map_map]; rfl
     rw [eK] at gl'
     refine af <| aD <| aR <| ak <| ad rfl <| ad rfl <| kN gl' (cJ fun k hk => by obtain ⟨i, ξ, rfl⟩ := List.mem_map.mp hk; rcases i with (_ | _) | _ | _ <;> decide +kernel) (k := .p (.int (oi b))) rfl (eT (some b)) ⟨_, rfl, ?_⟩
     have hm : (L.map fun i => Key.p (.int i.int)).contains (.p (.int (oi b))) = true ↔ mr W b := by
      rw [List.contains_iff_mem, ← mL, List.mem_map]
      constructor
      ·rintro ⟨i, hi, e⟩
       simp only [Key.p.injEq, Prim.int.injEq] at e
       rw [← Inr.inj (a := i) (b := .o b) e]; exact hi
      ·intro h; exact ⟨_, h, rfl⟩
     rw [Bool.false_xor]
     cases hb : (L.map fun i => Key.p (.int i.int)).contains (.p (.int (oi b))) with
     | true =>
      have hlost := hm.mp hb
      obtain ⟨cs, hcs, ndc, mcs⟩ := R'.toks (c := .held (r b)) (p := false) rfl
      have lcs := d9 ndc
      refine af <| aq <| aC <| aa <| ad rfl <| aa <| ak <| R'.held rfl <| ak <| ad rfl <| ad rfl <| kz hr' (b := b) <| R'.reg (r := r b) <| ae <| (gF R' hcs (by omega)).mono fun ξ H'' g => ⟨rfl, ag ⟨rfl, ag ⟨.inl rfl, ⟨some (.int (oi b)), rfl⟩, ?_⟩⟩⟩
      exact g.conv (fun τ hs h => (h hlost).mono fun t ht => hs _ ((mcs t).mp ht)) fun h ξ => h.mono fun t ht => (mcs t).mpr ht
     | false =>
      refine ag ⟨rfl, ag ⟨.inl rfl, ⟨some (.int (oi b)), rfl⟩, .skip R' fun hl => ?_⟩⟩
      rw [hm.mpr hl] at hb
      cases hb
    ·obtain ⟨S₇, R₇, fr₇, d₇⟩ := g.start xc
     refine aK <| fT <| .inl ⟨_, rfl, S₇, R₇, fr₄.trans (fr₅.trans fr₇), ?_⟩
     exact dP.trans (d₅.and d₇) (E := Lit W r) (fun τ ξ h => ⟨h.1, h.2.1, fun b ξ => h.2.2 b⟩) fun a b => ⟨a, b.1, fun b' hb' => b.2 b' (by cases b' <;> simp) hb'⟩
  ·rw [show decide (Wo.slit.str = "strange literal") = true from by decide]
   refine aK <| aq <| aC <| aa <| ad rfl <| aa <| ad rfl <| ae <| (gF R₄ gX₄ (by omega)).mono fun ξ H₅ g => ?_
   obtain ⟨S₅, R₅, fr₅, d₅⟩ := g
   rw [hX] at d₅
   refine aK <| fT <| .inl ⟨_, rfl, S₅, R₅, fr₄.trans fr₅, ?_⟩
   exact dP.trans d₅ (E := LitU r) (fun τ hs h => ⟨h.1, h.2.mono fun t => opX.mono hs⟩) fun a b => ⟨a, b⟩
end
section
variable {H H' H'' : MH} {P : V → MH → Prop} {B : Bool → MH → Prop} {T : Fl × Loc → MH → Prop} {loc : Loc}
theorem dw {PP : List (V × V) → MH → Prop} (h : PP [] H) : Ok (dK loc) H PP := ⟨[], H, rfl, h⟩
theorem bl {PP : List (V × V) → MH → Prop} {f g : EM V} {q : EM (List (V × V))} (h : Ok (f loc) H fun a H₁ => Ok (g loc) H₁ fun b H₂ => Ok (q loc) H₂ fun l H₃ => PP ((a, b) :: l) H₃) : Ok (bd f g q loc) H PP :=
 .bnd (h.mono fun a ξ q => .bnd (q.mono fun b ξ q => .bnd (q.mono fun l ξ q => .rt q)))
noncomputable def mR (es : List (Key × V)) (ps : List (Str × V)) : List (Key × V) := ps.foldl (fun es p => dput es (.p (.str p.1)) p.2) es
theorem rL {es : List (Key × V)} {p : Prim} {v : V} (h : allP es = true) : allP (dput es (.p p) v) = true := by
 unfold dput
 split
 ·unfold allP at h ⊢
  rw [List.all_map]
  rw [List.all_eq_true] at h ⊢
  intro x hx
  have := h x hx
  simp only [Function.comp]
  split <;> exact this
 ·unfold allP at h ⊢
  rw [List.all_append, h]
  rfl
theorem oo {es : List (Key × V)} {k : Key} {v : V} : (dput es k v).length ≤ es.length + 1 := by
 unfold dput
 split <;> simp
theorem lT {U : Unit → MH → Prop} {x : Nat} : ∀ (ps : List (Str × V)) (es : List (Key × V)) (H : MH), IsD H x es → allP es = true → es.length + ps.length ≤ 100 → (∀ H', IsD H' x (mR es ps) → Gro (fun i => i = x) H H' → U () H') → Ok (jo (.ref x) (ps.map fun p => (.str p.1, p.2))) H U
 | [], es, H, hd, ha, hl, h => ⟨(), H, rfl, h H hd .refl⟩
 | (k, v) :: ps, es, H, hd, ha, hl, h => by
  simp only [List.length_cons] at hl
  refine .bnd ?_
  have hll : es.length ≤ lim := Nat.le_trans (show es.length ≤ 100 by omega) (by decide)
  obtain ⟨n, e⟩ := hd
  refine ⟨.none, putD H x (dput es (.p (.str k)) v), ?_, ?_⟩
  ·unfold eB
   have ok1 : fc es (.p (.str k)) = true := ha
   rw [dC e]
   exact if_pos (by rw [ok1, decide_eq_true hll]; rfl)
  ·have hln := @oo es (.p (.str k)) v
   exact lT ps _ _ (gf ⟨n, e⟩) (rL ha) (by omega) fun H' d g => h H' d ((nH (W := fun i => i = x) rfl).trans g)
theorem ok_dictD {f : EM (List (V × V))} (h : Ok (f loc) (H ++ [.dict [] 0]) fun l H₁ => ∃ ps : List (Str × V), l = (ps.map fun p => (.str p.1, p.2)) ∧ IsD H₁ H.length [] ∧ ps.length ≤ 100 ∧ ∀ H', IsD H' H.length (mR [] ps) → Gro (fun i => i = H.length) H₁ H' → P (.ref H.length) H') : Ok (cP f loc) H P := by
 obtain ⟨l, H₁, e, ps, rfl, hd, hl, k⟩ := h
 obtain ⟨u, H₂, e₂, q⟩ := lT (U := fun ξ H' => P (.ref H.length) H') ps [] H₁ hd rfl (by simpa using hl) k
 exact ⟨_, H₂, by unfold cP Mine.bnd; rw [e]; dsimp only; rw [e₂]; rfl, q⟩
end
section
variable {F : Fix} {G : TFix} {W : Told} {A : At} {S : St} {H H' H'' : MH} {P : V → MH → Prop} {B : Bool → MH → Prop} {T : Fl × Loc → MH → Prop} {loc : Loc}
theorem dm {x : Str} {k : Int} {y : Str} (e : fx x k = y) (hl : y.length ≤ lim) (h : P (.str y) H) : Ok (k4 (.str x) (.int k)) H P := ⟨_, H, by unfold k4; simp only [e, hl, if_true], h⟩
noncomputable def goals : List (Str × V) := [("call", .tup [.str "fn", .str "k"]), ("strange call", .tup [.str "fn", .str "none"]), ("face call", .tup [.str "face", regV 3, .str "m"]), ("value call", .tup [.str "value", regV 3]), ("go", .tup [.str "fn", .str "k"]), ("value go", .tup [.str "value", regV 3]), ("defer", .tup [.str "fn", .str "k"]), ("strange defer", .tup [.str "fn", .str "none"])]
theorem cK : allP (mR [] goals) = true := by decide +kernel
theorem ok_goals (h5 : loc[5]? = some (some (regV 3))) (h : ∀ H', IsD H' H.length (mR [] goals) → Ext H H' → P (.ref H.length) H') :
  Ok (cP (bd (eC (.str "call")) (av (ac (eC (.str "fn")) (ac (eC (.str "k")) (lNil)))) (bd (eC (.str "strange call")) (av (ac (eC (.str "fn")) (ac (eC (.str "none")) (lNil)))) (bd (eC (.str "face call")) (av (ac (eC (.str "face")) (ac (eLoc 5) (ac (eC (.str "m")) (lNil))))) (bd (eC (.str "value call")) (av (ac (eC (.str "value")) (ac (eLoc 5) (lNil)))) (bd (eC (.str "go")) (av (ac (eC (.str "fn")) (ac (eC (.str "k")) (lNil)))) (bd (eC (.str "value go")) (av (ac (eC (.str "value")) (ac (eLoc 5) (lNil)))) (bd (eC (.str "defer")) (av (ac (eC (.str "fn")) (ac (eC (.str "k")) (lNil)))) (bd (eC (.str "strange defer")) (av (ac (eC (.str "fn")) (ac (eC (.str "none")) (lNil)))) (dK))))))))) loc) H P := by
 have two : ∀ (a b : Str) (Q : V → MH → Prop) (H₁ : MH), Q (.tup [.str a, .str b]) H₁ → Ok (av (ac (eC (.str a)) (ac (eC (.str b)) (lNil))) loc) H₁ Q := fun a b Q H₁ q => aB <| aa <| ok_C <| aa <| ok_C <| ae ⟨lim2, q⟩
 have val : ∀ (a : Str) (Q : V → MH → Prop) (H₁ : MH), Q (.tup [.str a, regV 3]) H₁ → Ok (av (ac (eC (.str a)) (ac (eLoc 5) (lNil))) loc) H₁ Q := fun a Q H₁ q => aB <| aa <| ok_C <| aa <| ad h5 <| ae ⟨lim2, q⟩
 refine ok_dictD <| bl <| ok_C <| two _ _ _ _ <| bl <| ok_C <| two _ _ _ _ <| bl <| ok_C <| aB <| aa <| ok_C <| aa <| ad h5 <| aa <| ok_C <| ae ⟨lim3, ?_⟩
 refine bl <| ok_C <| val _ _ _ <| bl <| ok_C <| two _ _ _ _ <| bl <| ok_C <| val _ _ _ <| bl <| ok_C <| two _ _ _ _ <| bl <| ok_C <| two _ _ _ _ <| dw ⟨goals, rfl, ⟨0, aj⟩, by decide, fun H' hd g => h H' hd ?_⟩
 exact Ext.gro (l := H.length) .app g (Nat.le_refl _)
theorem ok_do (R : Flow F H A S) (TF : TFlow F G H A W) (hW : W.Ok) {r : Bool → Fin 8} {lr : Nat} {w : Wo} (hr : H[lr]? = some (.list (opB r))) : Ok (kW [.ref F.fl, .tup [.str w.str, .ref lr]]) H fun ξ H' => Go F (Deed W r w) H A S H' := by
 refine a9 rfl <| af <| en <| ad rfl ⟨_, rfl, rfl, ?_⟩
 refine af <| en <| aB <| aa <| dF (α := Fin 8) (β := Option V) (xs := [r false, r true]) (val := fun r => V.int ((r.val : Nat) : Int)) (p := fun ξ => true) (em := regV) (mk := fun y => [none, y]) (y := none) (by simp) rfl <|
  bK <| ad rfl <| bP hr fun s hs hok => ⟨hs, hok, fun x ξ y H' x' => ⟨some (.int ((x.val : Nat) : Int)), rfl, fun B hB => c9 hB, fun ξ P hP => aB <| aa <| ok_C <| aa <| ad rfl <| ae ⟨lim2, hP⟩⟩, ?_⟩
 have x₁ : Ext H (H ++ [MObj.list (([r false, r true].filter fun ξ => true).map regV)]) := .app
 have g₁ : (H ++ [MObj.list (([r false, r true].filter fun ξ => true).map regV)])[H.length]? = some (.list [regV (r false), regV (r true)]) := aj
 generalize H ++ [MObj.list (([r false, r true].filter fun ξ => true).map regV)] = H₁ at x₁ g₁ ⊢
 generalize H.length = ls at g₁ ⊢
 refine aa <| aB <| aa <| ok_C <| aa <| ok_C <| ae ⟨lim2, ae ⟨lim2, _, rfl, rfl, ?_⟩⟩
 refine af <| aO <| ok_goals rfl fun H₂ hd x₂ => ⟨rfl, ?_⟩
 have x₂' := x₁.trans x₂
 have g₂ := x₂.get g₁
 generalize H₁.length = lg at hd ⊢
 refine af <| aD <| aR <| ak <| ad rfl <| aF <| aa <| ok_C <| aa <| ok_C <| ae ⟨lim2, (fU (w := w) (ws := [.lit, .slit]) (B := fun b H' => H' = H₂ ++ [.list [.str "literal", .str "strange literal"]] ∧ b = w.isLS) aj ⟨rfl, w.in2⟩).mono fun v H' q => ?_⟩
 obtain ⟨b, rfl, rfl, rfl⟩ := q
 refine ⟨_, rfl, ?_⟩
 have x₃ : Ext H₂ (H₂ ++ [MObj.list [.str "literal", .str "strange literal"]]) := .app
 have x₃' := x₂'.trans x₃
 have hd₃ := x₃.isD hd
 have g₃ := x₃.get g₂
 generalize H₂ ++ [MObj.list [.str "literal", .str "strange literal"]] = H₃ at x₃ x₃' hd₃ g₃ ⊢
 have R₃ := R.ext x₃'
 have TF₃ := TF.ext x₃'
 cases hls : w.isLS with
 | true =>
  have key_lit : Key.ok (.p (.str "literal")) = true := Wo.key_ok .lit
  refine af <| aq <| R₃.call rfl (fun ξ => rfl) <| aa <| bM <| aR <| ak <| ad rfl <| ok_C <| bx w.key_ok key_lit ⟨_, rfl, ?_⟩
  cases w <;> first | (exact absurd hls (by decide)) | skip
  ·rw [show decide (Wo.lit.str = "literal") = true from by decide]
   exact ok_C <| aa <| ad rfl <| aa <| ok_C <| ae <| (iX R₃ TF₃ hW (k := true) (nm := "k") (by decide) g₃).mono fun ξ H' g => ⟨rfl, ag ⟨rfl, ag (.inr ⟨rfl, g.start x₃'⟩)⟩⟩
  ·rw [show decide (Wo.slit.str = "literal") = false from by decide]
   exact ok_C <| aa <| ad rfl <| aa <| ok_C <| ae <| (iX R₃ TF₃ hW (k := false) (nm := "none") (by decide) g₃).mono fun ξ H' g => ⟨rfl, ag ⟨rfl, ag (.inr ⟨rfl, g.start x₃'⟩)⟩⟩
 | false =>
  have x67 : Ext H₃ (H₃ ++ [MObj.list [.int 6, .int 7]]) := .app
  refine af <| aD <| aR <| ak <| ak <| ad rfl <| dR (i := 4) <| ok_C ⟨rfl, ?_⟩
  have kc := gJ
  have ke : Key.ok (.p (.str "efer")) = true := by decide +kernel
  have kg : Key.ok (.p (.str "go")) = true := pI
  have keg : Key.ok (.p (.str "e go")) = true := by decide +kernel
  have ker : Key.ok (.p (.str "er")) = true := by decide +kernel
  cases w <;> first | (exact absurd hls (by decide)) | skip
  ·refine dm (y := "call") (by decide +kernel) (show ("call" : Str).length ≤ lim by decide) <| ok_C <| bx kc kc ⟨_, rfl, ?_⟩
   rw [show decide (("call" : Str) = "call") = true from by decide]
   exact af <| aq <| R₃.call rfl (fun ξ => rfl) <| aa <| ok_C <| aa <| aB <| aa <| ok_C <| aa <| aF <| aa <| ok_C <| aa <| ok_C <| ae ⟨lim2, aa <| ak <| ad rfl <| ad rfl <| bw (x67.isD hd₃) (p := .str Wo.call.str) rfl cK rfl <| aa <| ad rfl <| ae ⟨show 4 ≤ lim by decide, ae <| (bN (R₃.ext x67) (TF₃.ext x67) hW (r := r) (opw := "call") (fnw := "fn") (nm := "k") (bcall := true) (bgo := false) (bfn := true) (bface := false) (c := false) (k := true) ⟨kc, iE, by decide, by decide, by decide, by decide⟩ (rest := [.str "k"]) (x67.get g₃) (fun ξ => aj) rfl (fun e => by cases e) (fun ξ => rfl) (by decide)).mono fun ξ H' g => ⟨rfl, ag ⟨rfl, ag ⟨rfl, ag (.inr ⟨rfl, ((g.start x67).start x₃')⟩)⟩⟩⟩⟩⟩
  ·refine dm (y := "efer") (by decide +kernel) (show ("efer" : Str).length ≤ lim by decide) <| ok_C <| bx ke kc ⟨_, rfl, ?_⟩
   rw [show decide (("efer" : Str) = "call") = false from by decide]
   refine af <| aO <| bM <| aR <| ak <| ak <| ad rfl <| dR (i := 2) <| ok_C ⟨rfl, dm (y := "er") (by decide +kernel) (show ("er" : Str).length ≤ lim by decide) <| ok_C <| bx ker kg ⟨_, rfl, ?_⟩⟩
   rw [show decide (("er" : Str) = "go") = false from by decide]
   refine ok_C ⟨rfl, ?_⟩
   exact af <| aq <| R₃.call rfl (fun ξ => rfl) <| aa <| ad rfl <| aa <| aB <| aa <| ad rfl <| aa <| ak <| ad rfl <| ad rfl <| bw hd₃ (p := .str Wo.defer.str) rfl cK rfl <| aa <| ad rfl <| ae ⟨lim3, ae <| (bN R₃ TF₃ hW (r := r) (opw := "defer") (fnw := "fn") (nm := "k") (bcall := false) (bgo := false) (bfn := true) (bface := false) (c := false) (k := true) ⟨mA, iE, by decide, by decide, by decide, by decide⟩ (rest := [.str "k"]) g₃ (l67 := 0) (fun e => by cases e) rfl (fun e => by cases e) (fun ξ => rfl) (by decide)).mono fun ξ H' g => ⟨rfl, ag ⟨rfl, ag ⟨rfl, ag (.inr ⟨rfl, (g.start x₃')⟩)⟩⟩⟩⟩
  ·refine dm (y := "call") (by decide +kernel) (show ("call" : Str).length ≤ lim by decide) <| ok_C <| bx kc kc ⟨_, rfl, ?_⟩
   rw [show decide (("call" : Str) = "call") = true from by decide]
   exact af <| aq <| R₃.call rfl (fun ξ => rfl) <| aa <| ok_C <| aa <| aB <| aa <| ok_C <| aa <| aF <| aa <| ok_C <| aa <| ok_C <| ae ⟨lim2, aa <| ak <| ad rfl <| ad rfl <| bw (x67.isD hd₃) (p := .str Wo.scall.str) rfl cK rfl <| aa <| ad rfl <| ae ⟨show 4 ≤ lim by decide, ae <| (bN (R₃.ext x67) (TF₃.ext x67) hW (r := r) (opw := "call") (fnw := "fn") (nm := "none") (bcall := true) (bgo := false) (bfn := true) (bface := false) (c := false) (k := false) ⟨kc, iE, by decide, by decide, by decide, by decide⟩ (rest := [.str "none"]) (x67.get g₃) (fun ξ => aj) rfl (fun e => by cases e) (fun ξ => rfl) (by decide)).mono fun ξ H' g => ⟨rfl, ag ⟨rfl, ag ⟨rfl, ag (.inr ⟨rfl, ((g.start x67).start x₃')⟩)⟩⟩⟩⟩⟩
  ·refine dm (y := "call") (by decide +kernel) (show ("call" : Str).length ≤ lim by decide) <| ok_C <| bx kc kc ⟨_, rfl, ?_⟩
   rw [show decide (("call" : Str) = "call") = true from by decide]
   exact af <| aq <| R₃.call rfl (fun ξ => rfl) <| aa <| ok_C <| aa <| aB <| aa <| ok_C <| aa <| aF <| aa <| ok_C <| aa <| ok_C <| ae ⟨lim2, aa <| ak <| ad rfl <| ad rfl <| bw (x67.isD hd₃) (p := .str Wo.fcall.str) rfl cK rfl <| aa <| ad rfl <| ae ⟨show 4 ≤ lim by decide, ae <| (bN (R₃.ext x67) (TF₃.ext x67) hW (r := r) (opw := "call") (fnw := "face") (nm := "k") (bcall := true) (bgo := false) (bfn := false) (bface := true) (c := true) (k := false) ⟨kc, or, by decide, by decide, by decide, by decide⟩ (rest := [regV 3, .str "m"]) (x67.get g₃) (fun ξ => aj) rfl (fun ξ => rfl) (fun e => by cases e) (by decide)).mono fun ξ H' g => ⟨rfl, ag ⟨rfl, ag ⟨rfl, ag (.inr ⟨rfl, ((g.start x67).start x₃')⟩)⟩⟩⟩⟩⟩
  ·refine dm (y := "call") (by decide +kernel) (show ("call" : Str).length ≤ lim by decide) <| ok_C <| bx kc kc ⟨_, rfl, ?_⟩
   rw [show decide (("call" : Str) = "call") = true from by decide]
   exact af <| aq <| R₃.call rfl (fun ξ => rfl) <| aa <| ok_C <| aa <| aB <| aa <| ok_C <| aa <| aF <| aa <| ok_C <| aa <| ok_C <| ae ⟨lim2, aa <| ak <| ad rfl <| ad rfl <| bw (x67.isD hd₃) (p := .str Wo.vcall.str) rfl cK rfl <| aa <| ad rfl <| ae ⟨show 4 ≤ lim by decide, ae <| (bN (R₃.ext x67) (TF₃.ext x67) hW (r := r) (opw := "call") (fnw := "value") (nm := "k") (bcall := true) (bgo := false) (bfn := false) (bface := false) (c := false) (k := false) ⟨kc, my, by decide, by decide, by decide, by decide⟩ (rest := [regV 3]) (x67.get g₃) (fun ξ => aj) rfl (fun e => by cases e) (fun e => by cases e) (by decide)).mono fun ξ H' g => ⟨rfl, ag ⟨rfl, ag ⟨rfl, ag (.inr ⟨rfl, ((g.start x67).start x₃')⟩)⟩⟩⟩⟩⟩
  ·refine dm (y := "go") (by decide +kernel) (show ("go" : Str).length ≤ lim by decide) <| ok_C <| bx kg kc ⟨_, rfl, ?_⟩
   rw [show decide (("go" : Str) = "call") = false from by decide]
   refine af <| aO <| bM <| aR <| ak <| ak <| ad rfl <| dR (i := 2) <| ok_C ⟨rfl, dm (y := "go") (by decide +kernel) (show ("go" : Str).length ≤ lim by decide) <| ok_C <| bx kg kg ⟨_, rfl, ?_⟩⟩
   rw [show decide (("go" : Str) = "go") = true from by decide]
   refine ok_C ⟨rfl, ?_⟩
   exact af <| aq <| R₃.call rfl (fun ξ => rfl) <| aa <| ad rfl <| aa <| aB <| aa <| ad rfl <| aa <| ak <| ad rfl <| ad rfl <| bw hd₃ (p := .str Wo.go.str) rfl cK rfl <| aa <| ad rfl <| ae ⟨lim3, ae <| (bN R₃ TF₃ hW (r := r) (opw := "go") (fnw := "fn") (nm := "k") (bcall := false) (bgo := true) (bfn := true) (bface := false) (c := false) (k := false) ⟨kg, iE, by decide, by decide, by decide, by decide⟩ (rest := [.str "k"]) g₃ (l67 := 0) (fun e => by cases e) rfl (fun e => by cases e) (fun e => by cases e) (by decide)).mono fun ξ H' g => ⟨rfl, ag ⟨rfl, ag ⟨rfl, ag (.inr ⟨rfl, (g.start x₃')⟩)⟩⟩⟩⟩
  ·refine dm (y := "e go") (by decide +kernel) (show ("e go" : Str).length ≤ lim by decide) <| ok_C <| bx keg kc ⟨_, rfl, ?_⟩
   rw [show decide (("e go" : Str) = "call") = false from by decide]
   refine af <| aO <| bM <| aR <| ak <| ak <| ad rfl <| dR (i := 2) <| ok_C ⟨rfl, dm (y := "go") (by decide +kernel) (show ("go" : Str).length ≤ lim by decide) <| ok_C <| bx kg kg ⟨_, rfl, ?_⟩⟩
   rw [show decide (("go" : Str) = "go") = true from by decide]
   refine ok_C ⟨rfl, ?_⟩
   exact af <| aq <| R₃.call rfl (fun ξ => rfl) <| aa <| ad rfl <| aa <| aB <| aa <| ad rfl <| aa <| ak <| ad rfl <| ad rfl <| bw hd₃ (p := .str Wo.vgo.str) rfl cK rfl <| aa <| ad rfl <| ae ⟨lim3, ae <| (bN R₃ TF₃ hW (r := r) (opw := "go") (fnw := "value") (nm := "k") (bcall := false) (bgo := true) (bfn := false) (bface := false) (c := true) (k := false) ⟨kg, my, by decide, by decide, by decide, by decide⟩ (rest := [regV 3]) g₃ (l67 := 0) (fun e => by cases e) rfl (fun ξ => rfl) (fun e => by cases e) (by decide)).mono fun ξ H' g => ⟨rfl, ag ⟨rfl, ag ⟨rfl, ag (.inr ⟨rfl, (g.start x₃')⟩)⟩⟩⟩⟩
  ·refine dm (y := "efer") (by decide +kernel) (show ("efer" : Str).length ≤ lim by decide) <| ok_C <| bx ke kc ⟨_, rfl, ?_⟩
   rw [show decide (("efer" : Str) = "call") = false from by decide]
   refine af <| aO <| bM <| aR <| ak <| ak <| ad rfl <| dR (i := 2) <| ok_C ⟨rfl, dm (y := "er") (by decide +kernel) (show ("er" : Str).length ≤ lim by decide) <| ok_C <| bx ker kg ⟨_, rfl, ?_⟩⟩
   rw [show decide (("er" : Str) = "go") = false from by decide]
   refine ok_C ⟨rfl, ?_⟩
   exact af <| aq <| R₃.call rfl (fun ξ => rfl) <| aa <| ad rfl <| aa <| aB <| aa <| ad rfl <| aa <| ak <| ad rfl <| ad rfl <| bw hd₃ (p := .str Wo.sdefer.str) rfl cK rfl <| aa <| ad rfl <| ae ⟨lim3, ae <| (bN R₃ TF₃ hW (r := r) (opw := "defer") (fnw := "fn") (nm := "none") (bcall := false) (bgo := false) (bfn := true) (bface := false) (c := false) (k := false) ⟨mA, iE, by decide, by decide, by decide, by decide⟩ (rest := [.str "none"]) g₃ (l67 := 0) (fun e => by cases e) rfl (fun e => by cases e) (fun ξ => rfl) (by decide)).mono fun ξ H' g => ⟨rfl, ag ⟨rfl, ag ⟨rfl, ag (.inr ⟨rfl, (g.start x₃')⟩)⟩⟩⟩⟩
end
noncomputable def Site.rk : Site → Nat
 | .a => 0
 | .b => 1
 | .c => 2
 | .d => 3
noncomputable def Tk.rk : Tk → Nat
 | .beyond => 0
 | .out false => 1
 | .out true => 2
 | .site s => 3 + s.rk
noncomputable def Fact.rk : Fact → Nat
 | .held _ t => t.rk
 | .ins _ t => t.rk
 | .gone s => s.rk
 | .leak false => 0
 | .leak true => 1
 | .kept none false => 0
 | .kept none true => 1
 | .kept (some false) false => 2
 | .kept (some false) true => 3
 | .kept (some true) false => 4
 | .kept (some true) true => 5
theorem j0 {α : Type} (L : List α) (k : α → Key) (r : α → Nat) (h : (L.all fun a => L.all fun b => klt (k a) (k b) == decide (r a < r b) && kcmp (k a) (k b)) = true) {a b : α} (ha : a ∈ L) (hb : b ∈ L) : klt (k a) (k b) = decide (r a < r b) ∧ kcmp (k a) (k b) = true := by
 have := List.all_eq_true.mp (List.all_eq_true.mp h a ha) b hb
 rw [Bool.and_eq_true, beq_iff_eq] at this
 exact this
theorem tk_klt (t u : Tk) : klt t.key u.key = decide (t.rk < u.rk) ∧ kcmp t.key u.key = true := j0 allTk Tk.key Tk.rk (by decide +kernel) (fW t) (fW u)
theorem qi (o : Bool) : o ∈ [false, true] := by cases o <;> repeat (first | exact List.Mem.head _ | apply List.Mem.tail)
theorem qj (i : Option Bool) (o : Bool) : (i, o) ∈ [(none, false), (none, true), (some false, false), (some false, true), (some true, false), (some true, true)] := by
 rcases i with _ | (_ | _) <;> cases o <;> repeat (first | exact List.Mem.head _ | apply List.Mem.tail)
theorem klt_rk {f g : Fact} (h : f.cont = g.cont) : klt f.key g.key = decide (f.rk < g.rk) ∧ kcmp f.key g.key = true := by
 cases f with
 | held r t => cases g with
  | held r' u => exact tk_klt t u
  | _ => cases h
 | ins r t => cases g with
  | ins r' u => exact tk_klt t u
  | _ => cases h
 | gone s => cases g with
  | gone s' => exact j0 _ (fun s => (Fact.gone s).key) (fun s => (Fact.gone s).rk) (by decide +kernel) (eA s) (eA s')
  | _ => cases h
 | leak o => cases g with
  | leak o' => exact j0 _ (fun s => (Fact.leak s).key) (fun s => (Fact.leak s).rk) (by decide +kernel) (qi o) (qi o')
  | _ => cases h
 | kept i o => cases g with
  | kept i' o' => exact j0 _ (fun s => (Fact.kept s.1 s.2).key) (fun s => (Fact.kept s.1 s.2).rk) (by decide +kernel) (qj i o) (qj i' o')
  | _ => cases h
noncomputable def unTk (n : Nat) : Tk := (allTk.find? fun t => t.rk == n).getD .beyond
theorem jT (t : Tk) : unTk t.rk = t := by rcases t with (_ | _) | (_ | _ | _ | _) | _ <;> rfl
theorem tk_rk {t u : Tk} (h : t.rk = u.rk) : t = u := (jT t).symm.trans ((congrArg unTk h).trans (jT u))
noncomputable def unF (c : Cont) (n : Nat) : Fact := match c with
 | .held r => .held r (unTk n)
 | .ins s => .ins s (unTk n)
 | .gone => .gone ((([.a, .b, .c, .d] : List Site).find? fun s => s.rk == n).getD .a)
 | .leaks => .leak (n == 1)
 | .kept => ([.kept none false, .kept none true, .kept (some false) false, .kept (some false) true, .kept (some true) false] : List Fact)[n]?.getD (.kept (some true) true)
theorem unF_rk (f : Fact) : unF f.cont f.rk = f := by
 cases f with
 | held r t => exact congrArg (Fact.held r) (jT t)
 | ins s t => exact congrArg (Fact.ins s) (jT t)
 | gone s => cases s <;> rfl
 | leak o => cases o <;> rfl
 | kept i o => rcases i with _ | (_ | _) <;> cases o <;> rfl
theorem rk_inj {f g : Fact} (h : f.cont = g.cont) (e : f.rk = g.rk) : f = g := (unF_rk f).symm.trans ((congr (congrArg unF h) e).trans (unF_rk g))
noncomputable def insF (f : Fact) : List Fact → List Fact
 | [] => [f]
 | a :: r => if f.rk < a.rk then f :: a :: r else a :: insF f r
noncomputable def nq : List Fact → List Fact
 | [] => []
 | a :: r => insF a (nq r)
theorem jB {f a : Fact} {r : List Fact} : insF f (a :: r) = if f.rk < a.rk then f :: a :: r else a :: insF f r := rfl
theorem mem_insF {k x : Fact} : ∀ {l : List Fact}, x ∈ insF k l ↔ x = k ∨ x ∈ l
 | [] => by show _ ∈ [_] ↔ _; simp
 | a :: r => by
  rw [jB]
  split
  ·simp
  ·simp only [List.mem_cons, mem_insF (l := r)]
   constructor
   ·rintro (h | h | h)
    ·exact .inr (.inl h)
    ·exact .inl h
    ·exact .inr (.inr h)
   ·rintro (h | h | h)
    ·exact .inr (.inl h)
    ·exact .inl h
    ·exact .inr (.inr h)
theorem mem_sortF {x : Fact} : ∀ {l : List Fact}, x ∈ nq l ↔ x ∈ l
 | [] => .rfl
 | a :: r => by
  show x ∈ insF a (nq r) ↔ _
  rw [mem_insF, mem_sortF (l := r), List.mem_cons]
theorem ot {c : Cont} (f : Fact) (hf : f.cont = c) : ∀ l : List Fact, (∀ g ∈ l, g.cont = c) → insK f.key (l.map Fact.key) = (insF f l).map Fact.key
 | [], _ => rfl
 | a :: r, h => by
  have ha := h a (by simp)
  show (if klt f.key a.key then _ else _) = _
  rw [(klt_rk (hf.trans ha.symm)).1]
  rw [jB]
  by_cases q : f.rk < a.rk
  ·simp [q]
  ·simp only [q, decide_false, if_false, Bool.false_eq_true]
   rw [ot f hf r fun g hg => h g (by simp [hg])]
   rfl
theorem jm {c : Cont} : ∀ l : List Fact, (∀ g ∈ l, g.cont = c) → bG (l.map Fact.key) = (nq l).map Fact.key
 | [], _ => rfl
 | a :: r, h => by
  show insK a.key (bG (r.map Fact.key)) = _
  rw [jm r fun g hg => h g (by simp [hg])]
  exact ot a (h a (by simp)) _ fun g hg => h g (by simp [mem_sortF.mp hg])
noncomputable def Up : List Fact → Prop
 | [] => True
 | a :: r => (∀ b ∈ r, a.rk < b.rk) ∧ Up r
theorem up_ins {f : Fact} : ∀ {l : List Fact}, Up l → (∀ g ∈ l, g.rk ≠ f.rk) → Up (insF f l)
 | [], _, _ => ⟨fun b h => (by cases h), trivial⟩
 | a :: r, h, hn => by
  rw [jB]
  split
  ·rename_i q
   refine ⟨fun b hb => ?_, h⟩
   rcases List.mem_cons.mp hb with rfl | hb
   ·exact q
   ·exact Nat.lt_trans q (h.1 b hb)
  ·rename_i q
   have := hn a (by simp)
   refine ⟨fun b hb => ?_, up_ins h.2 fun g hg => hn g (by simp [hg])⟩
   rcases mem_insF.mp hb with rfl | hb
   ·omega
   ·exact h.1 b hb
theorem mI {c : Cont} : ∀ {l : List Fact}, l.Nodup → (∀ g ∈ l, g.cont = c) → Up (nq l)
 | [], _, _ => trivial
 | a :: r, nd, h => by
  have nd' := List.nodup_cons.mp nd
  refine up_ins (mI nd'.2 fun g hg => h g (by simp [hg])) fun g hg e => nd'.1 ?_
  have hg := mem_sortF.mp hg
  rw [← rk_inj ((h g (by simp [hg])).trans (h a (by simp)).symm) e]
  exact hg
theorem up_eq : ∀ {l m : List Fact}, Up l → Up m → (∀ f, f ∈ l ↔ f ∈ m) → l = m
 | [], [], _, _, _ => rfl
 | [], b :: m, _, _, h => absurd ((h b).mpr (by simp)) (by simp)
 | a :: l, [], _, _, h => absurd ((h a).mp (by simp)) (by simp)
 | a :: l, b :: m, hl, hm, h => by
  have e : a = b := by
   rcases List.mem_cons.mp ((h a).mp (by simp)) with q | q
   ·exact q
   ·rcases List.mem_cons.mp ((h b).mpr (by simp)) with q' | q'
    ·exact q'.symm
    ·have := hm.1 a q; have := hl.1 b q'; omega
  subst e
  rw [up_eq hl.2 hm.2 fun f => ?_]
  constructor
  ·intro hf
   rcases List.mem_cons.mp ((h f).mp (by simp [hf])) with q | q
   ·subst q; exact absurd (hl.1 f hf) (Nat.lt_irrefl _)
   ·exact q
  ·intro hf
   rcases List.mem_cons.mp ((h f).mpr (by simp [hf])) with q | q
   ·subst q; exact absurd (hm.1 f hf) (Nat.lt_irrefl _)
   ·exact q
theorem qG {c : Cont} {l m : List Fact} (nl : l.Nodup) (nm : m.Nodup) (cl : ∀ g ∈ l, g.cont = c) (h : ∀ f, f ∈ l ↔ f ∈ m) : bG (l.map Fact.key) = bG (m.map Fact.key) := by
 have cm : ∀ g ∈ m, g.cont = c := fun g hg => cl g ((h g).mpr hg)
 rw [jm l cl, jm m cm, up_eq (mI nl cl) (mI nm cm) fun f => by rw [mem_sortF, mem_sortF]; exact h f]
theorem nodup_rk {c : Cont} {l : List Fact} (nl : l.Nodup) (cl : ∀ g ∈ l, g.cont = c) : (l.map Fact.rk).Nodup := by
 induction l with
 | nil => exact .nil
 | cons a r ih =>
  have nd' := List.nodup_cons.mp nl
  rw [List.map_cons, List.nodup_cons]
  refine ⟨fun q => ?_, ih nd'.2 fun g hg => cl g (by simp [hg])⟩
  obtain ⟨b, hb, e⟩ := List.mem_map.mp q
  exact nd'.1 (rk_inj ((cl b (by simp [hb])).trans (cl a (by simp)).symm) e ▸ hb)
theorem cont_le {c : Cont} {l : List Fact} (nl : l.Nodup) (cl : ∀ g ∈ l, g.cont = c) : l.length ≤ 7 := by
 have : (l.map Fact.rk).length ≤ (List.range 7).length := cr (nodup_rk nl cl) fun x hx => by
  obtain ⟨f, ξ, rfl⟩ := List.mem_map.mp hx
  rw [List.mem_range]
  have tk : ∀ t : Tk, t.rk < 7 := fun t => by rcases t with (_ | _) | (_ | _ | _ | _) | _ <;> decide
  cases f with
  | held r t => exact tk t
  | ins s t => exact tk t
  | gone s => cases s <;> decide
  | leak o => cases o <;> decide
  | kept i o => rcases i with _ | (_ | _) <;> cases o <;> decide
 simpa using this
theorem lP {c : Cont} {l : List Fact} (nl : l.Nodup) (cl : ∀ g ∈ l, g.cont = c) : sOk (l.map Fact.key) = true := by
 refine mO (by rw [List.length_map]; have := cont_le nl cl; omega) ?_ fun a ha b hb => ?_
 ·induction l with
  | nil => exact .nil
  | cons a r ih =>
   have nd' := List.nodup_cons.mp nl
   rw [List.map_cons, List.nodup_cons]
   refine ⟨fun q => ?_, ih nd'.2 fun g hg => cl g (by simp [hg])⟩
   obtain ⟨b, hb, e⟩ := List.mem_map.mp q
   exact nd'.1 (Fact.key_inj ((cl b (by simp [hb])).trans (cl a (by simp)).symm) e ▸ hb)
 ·obtain ⟨x, hx, rfl⟩ := List.mem_map.mp ha
  obtain ⟨y, hy, rfl⟩ := List.mem_map.mp hb
  exact (klt_rk ((cl x hx).trans (cl y hy).symm)).2
section
variable {H H' H'' : MH} {P : V → MH → Prop} {loc : Loc}
theorem ld {α : Type} (n : α → Int) : ∀ l : List α, li (l.map fun c => V.int (n c)) = some (l.map n)
 | [] => rfl
 | a :: r => by
  show (li (r.map fun c => V.int (n c))).map (n a :: ·) = _
  rw [ld n r]
  rfl
theorem ph {α : Type} {n : α → Int} {l : Nat} {cs : List α} (e : H[l]? = some (.list (cs.map fun c => V.int (n c)))) (h : P (.int (cs.map n).sum) H) : Ok (mSum [.ref l]) H P := ⟨_, H, by unfold mSum; simp only [e, ld, Option.map_some], h⟩
theorem nK (p : Prim) : (V.ofPrim p).prim? = some p := by cases p <;> rfl
structure Tab (H : MH) (a : Nat) (lc : Cont → Nat) (cs : List Cont) (p : Bool) : Prop where
 d : IsD H a (cs.map fun c => (.p c.nm, .ref (lc c)))
 t : ∀ c ∈ cs, c.tab = some p
 l : cs.length ≤ 100
theorem Tab.ext {a : Nat} {lc : Cont → Nat} {cs : List Cont} {p : Bool} (t : Tab H a lc cs p) (x : Ext H H') : Tab H' a lc cs p := ⟨x.isD t.d, t.t, t.l⟩
theorem Tab.item {a : Nat} {lc : Cont → Nat} {cs : List Cont} {p : Bool} (t : Tab H a lc cs p) {c : Cont} (hc : c ∈ cs) (h : P (.ref (lc c)) H) : Ok (ah (.ref a) (V.ofPrim c.nm)) H P := by
 have ap : allP (cs.map fun c => (Key.p c.nm, V.ref (lc c))) = true := by unfold allP; simp [Key.isP]
 refine bw t.d (nK _) ap ?_ h
 rcases fk (g := fun c => V.ref (lc c)) t.t (t.t c hc) with ⟨a, _⟩ | ⟨_, b⟩
 ·exact a
 ·exact absurd hc b
theorem qa {a b lr : Nat} {lc : Cont → Nat} {cs ds rs : List Cont} {p q : Bool} {n : Cont → Int} (ta : Tab H a lc cs p) (tb : Tab H b lc ds q) (hr : H[lr]? = some (.list (rs.map fun c => V.ref (lc c)))) (hrl : rs.length ≤ 100)
  (hn : ∀ c, (c ∈ cs ∨ c ∈ ds ∨ c ∈ rs) → ∀ H', Ext H H' → ∀ P : V → MH → Prop, P (.int (n c)) H' → Ok (mLen [.ref (lc c)]) H' P)
  (h : ∀ H', Ext H H' → P (.int (((cs ++ ds).map n).sum + (rs.map n).sum)) H') : Ok (bY [.ref a, .ref b, .ref lr]) H P := by
 have inner : ∀ (H₁ : MH) (x : Nat) (es : List Cont) (pp : Bool) (pre : List V) (w1 w2 : Option V) (CP : Loc → MH → Prop), Ext H H₁ → Tab H x lc es pp → (∀ c ∈ es, c ∈ cs ∨ c ∈ ds) → pre.length ≤ 500 →
   (∀ w, CP [none, some (.ref x), w, none] (H₁ ++ [.list (pre ++ es.map fun c => V.int (n c))])) →
   Ok (cIn (itV (eLoc 1)) (aT 2) (eC true) (cS (eL mLen (ac (e2 ah (eLoc 1) (eLoc 2)) (lNil)))) H₁.length [none, some (.ref x), w2, none]) (H₁ ++ [.list pre]) CP := by
  intro H₁ x es pp pre w1 w2 CP hx tx hes hpre k
  have t1 := tx.ext hx
  obtain ⟨m, hm⟩ := t1.d
  have t2 := t1.l
  refine .bnd <| bK <| ad rfl <| dE (Ext.get .app hm) ?_
  have ei : (es.map fun c => (Key.p c.nm, V.ref (lc c))).map (fun e => V.ofKey e.1) = es.map fun c => V.ofPrim c.nm := by rw [List.map_map]; rfl
  show Ok (cu _ _ _ _ ((es.map fun c => (Key.p c.nm, V.ref (lc c))).map fun e => V.ofKey e.1) _) _ _
  rw [ei]
  refine jw (α := Cont) (β := Option V) (mk := fun w => [none, some (.ref x), w, none]) (p := fun ξ => true) (em := fun c => V.int (n c)) (fun H' x => x.get hm) es pre w2 (by omega) (fun c hc y H' x' => ⟨some (V.ofPrim c.nm), rfl, fun B hB => c9 hB, fun ξ P hP => aC <| aa <| ak <| ad rfl <| ad rfl <| (t1.ext x').item hc <| ae <| hn c ((hes c hc).elim .inl fun q => .inr (.inl q)) _ (hx.trans x') _ hP⟩) fun y => ?_
  rw [List.filter_eq_self.mpr fun ξ ξ => rfl]
  exact k y
 have xl : Ext H (H ++ [MObj.list [.ref a, .ref b]]) := .app
 refine a9 rfl <| aK <| bZ <| ak <| aC <| aa <| hK <| bK <| aF <| aa <| ad rfl <| aa <| ad rfl <| ae ⟨lim2, bh aj ?_⟩
 have gl := aj (H := H) (m := MObj.list [.ref a, .ref b])
 generalize hH1 : H ++ [MObj.list [.ref a, .ref b]] = H₁ at xl gl
 refine jx ⟨Ext.get .app gl, _, rfl, c9 ⟨rfl, inner H₁ a cs p [] none none _ xl ta (fun c hc => .inl hc) (Nat.zero_le _) fun w => ⟨Ext.get .app gl, _, rfl, c9 ⟨rfl, inner H₁ b ds q _ none w _ xl tb (fun c hc => .inr hc) (by simp; have := ta.l; omega) fun w => ⟨Ext.get .app gl, ?_⟩⟩⟩⟩⟩
 have e1 : ([] ++ cs.map fun c => V.int (n c)) ++ (ds.map fun c => V.int (n c)) = (cs ++ ds).map fun c => V.int (n c) := by simp
 rw [e1]
 have x2 := xl.trans (Ext.app (H := H₁) (t := [.list ((cs ++ ds).map fun c => V.int (n c))]))
 refine ae <| ph aj ?_
 refine aC <| aa <| dF (α := Cont) (β := Option V) (xs := rs) (val := fun c => V.ref (lc c)) (p := fun ξ => true) (em := fun c => V.int (n c)) (mk := fun y => [none, y, none]) (y := none) (by omega) rfl <|
  bK <| ad rfl <| bP (x2.get hr) fun s hs hok => ⟨hs, hok, fun c hc y H' x' => ⟨some (.ref (lc c)), rfl, fun B hB => c9 hB, fun ξ P hP => aC <| aa <| ad rfl <| ae <| hn c (.inr (.inr hc)) _ (x2.trans x') _ hP⟩, ?_⟩
 rw [List.filter_eq_self.mpr fun ξ ξ => rfl]
 exact ae <| ph aj <| dG <| .inl ⟨_, rfl, h _ (x2.trans .app)⟩
end
noncomputable def Count (S : St) (n : Nat) : Prop := ∃ fs : List Fact, fs.Nodup ∧ (∀ f, f ∈ fs ↔ S f) ∧ fs.length = n
theorem Count.le {S : St} {n : Nat} (h : Count S n) : n ≤ 96 := by obtain ⟨fs, nd, ξ, rfl⟩ := h; exact ia nd
theorem Count.grow {S T : St} {n m : Nat} (a : Count S n) (b : Count T m) (h : ∀ f, S f → T f) : n ≤ m := by
 obtain ⟨fs, nd, hf, rfl⟩ := a
 obtain ⟨gs, nd', hg, rfl⟩ := b
 exact cr nd fun f q => (hg f).mpr (h f ((hf f).mp q))
theorem pD {α : Type} {l m : List α} (nl : l.Nodup) (h : ∀ x ∈ l, x ∈ m) (e : l.length = m.length) : ∀ x ∈ m, x ∈ l := by
 intro x hx
 apply Classical.byContradiction
 intro hn
 have : (x :: l).length ≤ m.length := cr (List.nodup_cons.mpr ⟨hn, nl⟩) fun y hy => by
  rcases List.mem_cons.mp hy with rfl | hy
  ·exact hx
  ·exact h y hy
 simp only [List.length_cons] at this
 omega
theorem Count.same {S T : St} {n : Nat} (a : Count S n) (b : Count T n) (h : ∀ f, S f → T f) : T = S := by
 obtain ⟨fs, nd, hf, rfl⟩ := a
 obtain ⟨gs, nd', hg, e⟩ := b
 refine St.ext fun f => ⟨fun q => ?_, h f⟩
 exact (hf f).mp (pD nd (fun f q => (hg f).mpr (h f ((hf f).mp q))) e.symm f ((hg f).mpr q))
theorem oH {S : St} (cs : List Cont) (nd : cs.Nodup) (fs : Cont → List Fact) (hn : ∀ c ∈ cs, (fs c).Nodup ∧ ∀ f, f ∈ fs c ↔ S f ∧ f.cont = c) (hd : ∀ f, S f → f.cont ∈ cs) : Count S ((cs.map fun c => (fs c).length).sum) := by
 refine ⟨cs.flatMap fs, ?_, fun f => ?_, by rw [List.length_flatMap]⟩
 ·have key : ∀ ds : List Cont, ds.Nodup → (∀ c ∈ ds, c ∈ cs) → (ds.flatMap fs).Nodup := by
   intro ds
   induction ds with
   | nil => intro _ _; exact .nil
   | cons c r ih =>
    intro nd hs
    have nd' := List.nodup_cons.mp nd
    rw [List.flatMap_cons]
    refine List.nodup_append.mpr ⟨(hn c (hs c (by simp))).1, ih nd'.2 fun x hx => hs x (by simp [hx]), fun a ha b hb e => ?_⟩
    subst e
    obtain ⟨c', hc', hb⟩ := List.mem_flatMap.mp hb
    have q1 := (((hn c (hs c (by simp))).2 a).mp ha).2
    have q2 := (((hn c' (hs c' (by simp [hc']))).2 a).mp hb).2
    exact nd'.1 (by rw [← q1, q2]; exact hc')
  exact key cs nd fun ξ h => h
 ·rw [List.mem_flatMap]
  constructor
  ·rintro ⟨c, hc, h⟩
   exact (((hn c hc).2 f).mp h).1
  ·intro h
   exact ⟨f.cont, hd f h, ((hn _ (hd f h)).2 f).mpr ⟨h, rfl⟩⟩
section
variable {F : Fix} {G : TFix} {W : Told} {A : At} {S : St} {K : BFix} {H H' H'' : MH} {P : V → MH → Prop} {B : Bool → MH → Prop} {T : Fl × Loc → MH → Prop} {loc : Loc}
theorem cs_le {cs : List Cont} {p : Bool} (nd : cs.Nodup) (ht : ∀ c ∈ cs, c.tab = some p) : cs.length ≤ 12 :=
 cr (m := (List.finRange 8).map Cont.held ++ ([.a, .b, .c, .d] : List Site).map Cont.ins) nd fun c hc => by
  have := ht c hc
  cases c with
  | held r => simp [List.mem_finRange]
  | ins s => cases s <;> simp
  | gone => cases this
  | leaks => cases this
  | kept => cases this
theorem iJ (n : Cont → Nat) : ∀ l : List Cont, (l.map fun c => (n c : Int)).sum = ((l.map n).sum : Nat)
 | [] => rfl
 | a :: r => by simp only [List.map_cons, List.sum_cons, iJ n r]; omega
theorem ok_fsize (R : Flow F H A S) {i : Nat} (hl : loc[i]? = some (some (.ref F.fl))) (h : ∀ n H', Count S n → Ext H H' → P (.int (n : Int)) H') :
  Ok (eL bY (ac (e1 (aG 204 "held") (eLoc i)) (ac (e1 (aG 204 "inside") (eLoc i)) (ac (am (ac (e1 (aG 204 "gone") (eLoc i)) (ac (e1 (aG 54 "leaks") (e1 (aG 204 "summary") (eLoc i))) (ac (e1 (aG 54 "kept") (e1 (aG 204 "summary") (eLoc i))) (lNil))))) (lNil)))) loc) H P := by
 have at_ : ∀ (name : Str) (v : V) (Q : V → MH → Prop), (∀ b, nget (F.ns b) name = some v) → v.isRaw = false → Q v H → Ok (e1 (aG 204 name) (eLoc i) loc) H Q := fun name v Q h1 h2 q => R.ns_inst h1 h2 (ad hl ⟨rfl, R, q⟩)
 refine aC <| aa <| at_ _ (.ref F.dh) _ (fun ξ => rfl) rfl <| aa <| at_ _ (.ref F.di) _ (fun ξ => rfl) rfl <| aa <| aF <| aa <| at_ _ (.ref F.dg) _ (fun ξ => rfl) rfl <| aa <| cA <| at_ _ (.ref F.su) _ (fun ξ => rfl) rfl <| bE R.su R.sd rfl rfl <| aa <| cA <| at_ _ (.ref F.su) _ (fun ξ => rfl) rfl <| bE R.su R.sd rfl rfl <| ae ⟨lim3, ae ?_⟩
 have h' : ∀ c, ∃ fs : List Fact, A.has c → IsD H (A.loc F c) ((fs.map Fact.key).map ent) ∧ fs.Nodup ∧ ∀ f, f ∈ fs ↔ S f ∧ f.cont = c := fun c =>
  Classical.byCases (fun h => by obtain ⟨fs, q⟩ := R.set c h; exact ⟨fs, fun ξ => q⟩) fun h => ⟨[], fun q => absurd q h⟩
 obtain ⟨fs, hfs⟩ := Classical.axiomOfChoice h'
 have x : Ext H (H ++ [MObj.list ([Cont.gone, .leaks, .kept].map fun c => V.ref (A.loc F c))]) := .app
 obtain ⟨t0, n0, c0⟩ := R.tab false
 obtain ⟨t1, n1, c1⟩ := R.tab true
 have l0 := cs_le n0 c0
 have l1 := cs_le n1 c1
 have hd0 : ∀ c ∈ A.cs false, A.has c := fun c hc => by unfold At.has; rw [c0 c hc]; exact hc
 have hd1 : ∀ c ∈ A.cs true, A.has c := fun c hc => by unfold At.has; rw [c1 c hc]; exact hc
 have hr : ∀ c ∈ [Cont.gone, .leaks, .kept], A.has c := fun c hc => by
  rcases List.mem_cons.mp hc with rfl | hc
  ·trivial
  ·rcases List.mem_cons.mp hc with rfl | hc
   ·trivial
   ·rw [List.mem_singleton.mp hc]; trivial
 have hall : ∀ c, (c ∈ A.cs false ∨ c ∈ A.cs true ∨ c ∈ [Cont.gone, .leaks, .kept]) → A.has c := fun c hc => hc.elim (hd0 c) fun hc => hc.elim (hd1 c) (hr c)
 show Ok (bY [.ref (F.tab false), .ref (F.tab true), .ref H.length]) (H ++ [MObj.list ([Cont.gone, .leaks, .kept].map fun c => V.ref (A.loc F c))]) P
 refine qa (cs := A.cs false) (ds := A.cs true) (rs := [.gone, .leaks, .kept]) (p := false) (q := true) (lc := A.loc F) (n := fun c => ((fs c).length : Int)) ⟨x.isD t0, c0, by omega⟩ ⟨x.isD t1, c1, by omega⟩ aj (by decide) (fun c hc H' x' P hP => ?_) fun H' x' => ?_
 ·have q := hfs c (hall c hc)
  refine jY ((x.trans x').isD q.1) ?_ ?_
  ·simp only [List.length_map]
   exact Nat.le_trans (ia q.2.1) (by decide)
  ·simp only [List.length_map]; exact hP
 ·have e : ((((A.cs false ++ A.cs true).map fun c => ((fs c).length : Int)).sum + ([Cont.gone, .leaks, .kept].map fun c => ((fs c).length : Int)).sum)) = ((((A.cs false ++ A.cs true ++ [Cont.gone, .leaks, .kept]).map fun c => (fs c).length).sum : Nat) : Int) := by
   rw [iJ (fun c => (fs c).length), iJ (fun c => (fs c).length), List.map_append (l₁ := A.cs false ++ A.cs true), List.sum_append]
   omega
  rw [e]
  refine h _ H' (oH (A.cs false ++ A.cs true ++ [Cont.gone, .leaks, .kept]) ?_ fs (fun c hc => ?_) fun f hf => ?_) (x.trans x')
  ·refine List.nodup_append.mpr ⟨List.nodup_append.mpr ⟨n0, n1, fun a ha b hb e => ?_⟩, ?_, fun a ha b hb e => ?_⟩
   ·subst e
    have := c0 a ha
    rw [c1 a hb] at this
    cases this
   ·refine List.nodup_cons.mpr ⟨by simp, List.nodup_cons.mpr ⟨by simp, List.nodup_cons.mpr ⟨by simp, .nil⟩⟩⟩
   ·subst e
    have ht : a.tab = none := by
     rcases List.mem_cons.mp hb with rfl | hb
     ·rfl
     ·rcases List.mem_cons.mp hb with rfl | hb
      ·rfl
      ·rw [List.mem_singleton.mp hb]; rfl
    rcases List.mem_append.mp ha with ha | ha
    ·rw [c0 a ha] at ht; cases ht
    ·rw [c1 a ha] at ht; cases ht
  ·refine (hfs c (hall c ?_)).2
   rcases List.mem_append.mp hc with hc | hc
   ·rcases List.mem_append.mp hc with hc | hc
    ·exact .inl hc
    ·exact .inr (.inl hc)
   ·exact .inr (.inr hc)
  ·have := R.dom f hf
   unfold At.has at this
   cases ht : f.cont.tab with
   | none =>
    have : f.cont ∈ [Cont.gone, .leaks, .kept] := by
     generalize f.cont = c at ht
     cases c <;> first | (cases ht; done) | simp
    exact List.mem_append.mpr (.inr this)
   | some p =>
    rw [ht] at this
    cases p
    ·exact List.mem_append.mpr (.inl (List.mem_append.mpr (.inl this)))
    ·exact List.mem_append.mpr (.inl (List.mem_append.mpr (.inr this)))
end
section
variable {F : Fix} {W : Told} {S : St} {K : BFix} {H H' H'' : MH} {P : V → MH → Prop} {B : Bool → MH → Prop} {T : Fl × Loc → MH → Prop} {loc : Loc}
theorem ok_bsize (R : Book K H S) {i : Nat} (hl : loc[i]? = some (some (.ref K.bk))) (h : ∀ n H', Count S n → Ext H H' → P (.int ((n : Nat) : Int)) H') :
  Ok (eL bY (ac (e2 ah (eLoc i) (eC (.str "held"))) (ac (e2 ah (eLoc i) (eC (.str "inside"))) (ac (am (ac (e2 ah (eLoc i) (eC (.str "gone"))) (ac (e2 ah (eLoc i) (eC (.str "leaks"))) (ac (e2 ah (eLoc i) (eC (.str "kept"))) (lNil))))) (lNil)))) loc) H P := by
 refine aC <| aa <| R.held hl <| aa <| R.inside hl <| aa <| aF <| aa <| R.gone hl <| aa <| R.leaks hl <| aa <| R.kept hl <| ae ⟨lim3, ae ?_⟩
 obtain ⟨fs, hfs⟩ := Classical.axiomOfChoice R.set
 have x : Ext H (H ++ [MObj.list ([Cont.gone, .leaks, .kept].map fun c => V.ref (K.at_ c))]) := .app
 have eh : ((List.finRange 8).map fun r => (Key.p (Cont.held r).nm, V.ref (K.at_ (.held r)))) = ((List.finRange 8).map Cont.held).map fun c => (Key.p c.nm, V.ref (K.at_ c)) := by rw [List.map_map]; rfl
 have ei : (([.a, .b, .c, .d] : List Site).map fun s => (Key.p (Cont.ins s).nm, V.ref (K.at_ (.ins s)))) = (([.a, .b, .c, .d] : List Site).map Cont.ins).map fun c => (Key.p c.nm, V.ref (K.at_ c)) := by rw [List.map_map]; rfl
 have th := R.hd
 have ti := R.is
 rw [eh] at th
 rw [ei] at ti
 show Ok (bY [.ref K.hd, .ref K.is, .ref H.length]) (H ++ [MObj.list ([Cont.gone, .leaks, .kept].map fun c => V.ref (K.at_ c))]) P
 refine qa (cs := (List.finRange 8).map Cont.held) (ds := ([.a, .b, .c, .d] : List Site).map Cont.ins) (rs := [.gone, .leaks, .kept]) (p := false) (q := true) (lc := K.at_) (n := fun c => ((fs c).length : Int)) ⟨x.isD th, fun c hc => by obtain ⟨r, ξ, rfl⟩ := List.mem_map.mp hc; rfl, by decide⟩ ⟨x.isD ti, fun c hc => by obtain ⟨r, ξ, rfl⟩ := List.mem_map.mp hc; rfl, by decide⟩ aj (by decide) (fun c hc H' x' P hP => ?_) fun H' x' => ?_
 ·have q := hfs c
  refine cU ((x.trans x').get q.1) ?_ ?_
  ·simp only [List.length_map]
   exact Nat.le_trans (ia q.2.1) (by decide)
  ·simp only [List.length_map]; exact hP
 ·generalize hcs : (List.finRange 8).map Cont.held = cs
  generalize hds : ([.a, .b, .c, .d] : List Site).map Cont.ins = ds
  have e : ((((cs ++ ds).map fun c => ((fs c).length : Int)).sum + ([Cont.gone, .leaks, .kept].map fun c => ((fs c).length : Int)).sum)) = ((((cs ++ ds ++ [Cont.gone, .leaks, .kept]).map fun c => (fs c).length).sum : Nat) : Int) := by
   rw [iJ (fun c => (fs c).length), iJ (fun c => (fs c).length), List.map_append (l₁ := cs ++ ds), List.sum_append]
   omega
  rw [e]
  subst hcs hds
  refine h _ H' (oH ((List.finRange 8).map Cont.held ++ ([.a, .b, .c, .d] : List Site).map Cont.ins ++ [Cont.gone, .leaks, .kept]) ?_ fs (fun c hc => (hfs c).2) fun f hf => ?_) (x.trans x')
  ·have n0 : ((List.finRange 8).map Cont.held).Nodup := dA (fun a b h => by cases h; rfl) (List.nodup_finRange 8)
   have n1 : (([.a, .b, .c, .d] : List Site).map Cont.ins).Nodup := by simp
   refine List.nodup_append.mpr ⟨List.nodup_append.mpr ⟨n0, n1, fun a ha b hb e => ?_⟩, by simp, fun a ha b hb e => ?_⟩
   ·obtain ⟨r, ξ, rfl⟩ := List.mem_map.mp ha
    obtain ⟨s, ξ, rfl⟩ := List.mem_map.mp hb
    cases e
   ·subst e
    rcases List.mem_append.mp ha with ha | ha
    ·obtain ⟨r, ξ, rfl⟩ := List.mem_map.mp ha; simp at hb
    ·obtain ⟨r, ξ, rfl⟩ := List.mem_map.mp ha; simp at hb
  ·cases f.cont with
   | held r => simp [List.mem_finRange]
   | ins s => cases s <;> simp
   | gone => simp
   | leaks => simp
   | kept => simp
theorem dY (i : Int) : Key.ok (.p (.int i)) = true := rfl
theorem kP {Wr : MH → St → Prop} {C : St → Prop} {mk : Int → Loc} {sizeE : EM V} {body : SM} {S₀ : St} (m12 : ∀ a, (mk a)[12]? = some (some (.int a))) (mset : ∀ a b, (mk a).set 12 (some (.int b)) = mk b)
  (hsize : ∀ a H S, Wr H S → ∀ P : V → MH → Prop, (∀ n H', Count S n → Wr H' S → P (.int ((n : Nat) : Int)) H') → Ok (sizeE (mk a)) H P)
  (hbody : ∀ a H S, Wr H S → ∀ P : Fl × Loc → MH → Prop, (∀ H' S', Wr H' S' → Doing C S S' → P (.next, mk a) H') → Ok (body (mk a)) H P)
  (h0 : Wr H S₀) (h : ∀ a H' S', Wr H' S' → C S' → (∀ f, S₀ f → S' f) → (∀ τ : St, (∀ f, S₀ f → τ f) → C τ → ∀ f, S' f → τ f) → T (.next, mk a) H') :
  Ok (eZ (bV (e2 mNe (eLoc 12) sizeE)) (ai (sSet 12 sizeE) body) (mk (-1))) H T := by
 refine kA (fun n lc H => ∃ a S, lc = mk a ∧ Wr H S ∧ (∀ f, S₀ f → S f) ∧ (∀ τ : St, (∀ f, S₀ f → τ f) → C τ → ∀ f, S f → τ f) ∧ n = (97 - a).toNat ∧ (a = -1 ∨ ∃ S₁ k, a = ((k : Nat) : Int) ∧ Count S₁ k ∧ Doing C S₁ S)) ?_ _ _ _ ⟨-1, S₀, rfl, h0, fun ξ x => x, fun τ hs ξ => hs, rfl, .inl rfl⟩
 rintro n lc H ⟨a, S, rfl, hw, hle, hsnd, rfl, ha⟩
 refine aR <| ak <| ad (m12 a) <| hsize a H S hw _ fun m H₁ hm hw₁ => ?_
 refine gG (neg := true) (dY a) (dY m) ⟨_, rfl, ?_⟩
 have hm96 := hm.le
 by_cases hq : a = m
 ·rw [decide_eq_true hq]
  rcases ha with rfl | ⟨S₁, k, rfl, hk, d⟩
  ·exact absurd hq (Int.ne_of_lt (Int.lt_of_lt_of_le (by decide) (Int.natCast_nonneg m)))
  ·have hkm : k = m := Int.ofNat.inj hq
   subst hkm
   have hs : S = S₁ := Count.same hk hm d.le
   subst hs
   exact h _ _ S hw₁ (d.fix rfl) hle hsnd
 ·rw [decide_eq_false hq]
  refine af <| aO <| hsize a H₁ S hw₁ _ fun m' H₂ hm' hw₂ => ⟨rfl, ?_⟩
  have hmm : m' = m := Nat.le_antisymm (hm'.grow hm fun ξ x => x) (hm.grow hm' fun ξ x => x)
  subst hmm
  show Ok (body ((mk a).set 12 (some (.int (m' : Int))))) H₂ _
  rw [mset]
  refine hbody m' H₂ S hw₂ _ fun H₃ S₃ hw₃ d => ⟨.inl rfl, (97 - (m' : Int)).toNat, ?_, m', S₃, rfl, hw₃, fun f hf => d.le f (hle f hf), fun τ hs hc => d.snd τ (hsnd τ hs hc) hc, rfl, .inr ⟨S, m', rfl, hm, d⟩⟩
  rcases ha with rfl | ⟨S₁, k, rfl, hk, d'⟩
  ·omega
  ·have := hk.grow hm d'.le
   omega
end
noncomputable def More (X : Fact → Prop) (S S' : St) : Prop := ∀ f, S' f ↔ S f ∨ X f
inductive GoX (F : Fix) (X : Fact → Prop) (H : MH) (A : At) (S : St) (H' : MH) : Prop where
 | mk (A' : At) (S' : St) (h0 : Flow F H' A' S') (h1 : Fr F H A H' A') (h2 : More X S S') : GoX F X H A S H'
section
variable {F : Fix} {H H' H'' : MH} {A A' A'' : At} {S S' : St} {P : V → MH → Prop} {T : Fl × Loc → MH → Prop} {loc : Loc}
theorem More.nil {α : Type} {S : St} {X : α → Fact → Prop} : More (fun f => ∃ x ∈ ([] : List α), X x f) S S := fun f => ⟨.inl, fun q => q.elim id fun q => by obtain ⟨ξ, h, ξ⟩ := q; cases h⟩
theorem More.step {α : Type} {S S' S'' : St} {X : α → Fact → Prop} {ds : List α} {x : α} (m : More (fun f => ∃ x ∈ ds, X x f) S S') (n : More (X x) S' S'') : More (fun f => ∃ z ∈ ds ++ [x], X z f) S S'' := fun f => by
 rw [n, m]
 constructor
 ·rintro ((h | ⟨u, hu, h⟩) | h)
  ·exact .inl h
  ·exact .inr ⟨u, List.mem_append.mpr (.inl hu), h⟩
  ·exact .inr ⟨x, List.mem_append.mpr (.inr (.head _)), h⟩
 ·rintro (h | ⟨u, hu, h⟩)
  ·exact .inl (.inl h)
  ·rcases List.mem_append.mp hu with hu | hu
   ·exact .inl (.inr ⟨u, hu, h⟩)
   ·cases List.mem_singleton.mp hu; exact .inr h
inductive NoteAt (F : Fix) (H : MH) (A : At) (S : St) (c : Cont) (ds : List Tk) (H' : MH) : Prop where
 | mk (S' : St) (R' : Flow F H' A S') (fr : Fr F H A H' A) (mo : More (fun f => ∃ t ∈ ds, f = c.of t) S S') : NoteAt F H A S c ds H'
theorem ok_noteX (R : Flow F H A S) {f : Fact} (hf : A.has f.cont) {v : V} (hv : v = .ofKey f.key) {l : Nat} (hl : l = A.loc F f.cont) : Ok (ar [.ref F.fl, .ref l, v]) H fun ξ H' => ∃ S', Flow F H' A S' ∧ Fr F H A H' A ∧ More (· = f) S S' := by
 subst hv hl
 obtain ⟨fs, h1, h2, h3⟩ := R.set _ hf
 obtain ⟨b, hd⟩ := R.d
 refine kE R.fl hd (by simp [Fix.ns]) h1 (by rw [List.length_map]; exact Nat.le_trans (ia h2) (by decide)) (dz fun x hx => ?_) (fun hm => ?_) fun hm => ?_
 ·obtain ⟨g, hg, rfl⟩ := List.mem_map.mp hx
  exact Fact.isP ((h3 g).mp hg).2
 ·obtain ⟨g, hg, e⟩ := List.mem_map.mp hm
  obtain ⟨hs, hc⟩ := (h3 g).mp hg
  obtain rfl := Fact.key_inj hc e
  exact ⟨S, R, .refl, fun f => ⟨.inl, fun q => q.elim id fun q => q ▸ hs⟩⟩
 ·rw [kT]
  obtain ⟨r, fr⟩ := R.put hf h1 hm
  exact ⟨_, r, fr, fun ξ => .rfl⟩
theorem Flow.noteAllX (R : Flow F H A S) {c : Cont} {p : Bool} (hc : c.tab = some p) (hh : A.has c) {β : Type} {mk : β → Loc} {i j lt : Nat} {ts : List Tk} (ht : H[lt]? = some (.list (ts.map Tk.v)))
  (m0 : ∀ y, (mk y)[0]? = some (some (.ref F.fl))) (mi : ∀ y, (mk y)[i]? = some (some (.ref (A.loc F c)))) (ms : ∀ (t : Tk) y, ∃ y', (mk y).set j (some t.v) = mk y') (mj : ∀ (t : Tk) y, ((mk y).set j (some t.v))[j]? = some (some t.v)) (y : β)
  (h : ∀ y' H' S', Flow F H' A S' → Fr F H A H' A → More (fun f => ∃ t ∈ ts, f = c.of t) S S' → T (.next, mk y') H') :
  Ok (bt (fun h => h[lt]? = some (.list (ts.map Tk.v))) (aT j) (ai (aL (aw (au 204 "note") ar (eLoc 0) (ac (eLoc i) (ac (eLoc j) (lNil))))) sNil) (ts.map Tk.v) (mk y)) H T := by
 refine cj (NoteAt F H A S c) (fun ds H' q => ?_) (fun ds t rs y H' ξ q => ?_) y ⟨S, R, .refl, .nil⟩ fun y' H' q => ?_
 ·obtain ⟨S', R', fr, ξ⟩ := q
  exact fr.list R ht
 ·obtain ⟨S', R', fr, mo⟩ := q
  obtain ⟨y', e⟩ := ms t y
  have hj := mj t y
  refine ⟨(mk y).set j (some t.v), rfl, ?_⟩
  rw [e] at hj ⊢
  refine af <| aq <| R'.call (m0 y') (fun ξ => rfl) <| aa <| ad (mi y') <| aa <| ad hj <| ae <| (ok_noteX R' (f := c.of t) (by rw [Cont.of_cont hc]; exact hh) (by rw [Cont.of_key hc, Tk.of_key]) (by rw [Cont.of_cont hc])).mono fun ξ H'' g => ⟨rfl, ag ⟨.inl rfl, ⟨y', rfl⟩, ?_⟩⟩
  obtain ⟨S'', R'', fr'', mo'⟩ := g
  exact ⟨S'', R'', fr.trans fr'', mo.step mo'⟩
 ·obtain ⟨S', R', fr, mo⟩ := q
  exact h y' H' S' R' fr mo
theorem ok_giveX (R : Flow F H A S) {r : Fin 8} {ts : List Tk} {lt : Nat} (ht : H[lt]? = some (.list (ts.map Tk.v))) : Ok (aX [.ref F.fl, .int ((r.val : Nat) : Int), .ref lt]) H fun ξ H' => GoX F (fun f => ∃ t ∈ ts, f = .held r t) H A S H' := by
 refine a9 rfl <| af <| aD <| aR <| ak <| ad rfl <| ok_C <| kM (t := false) rfl ⟨_, rfl, ?_⟩
 refine af <| aO <| bn <| R.at_held rfl <| b8 (R.tab false).1 <| aa <| ad rfl <| aa <| cq <| ae <| R.setDef (p := false) (c := .held r) .app rfl rfl ⟨0, aj⟩ (Nat.le_refl _) fun H₁ A₁ R₁ fr hh => ⟨rfl, ?_⟩
 have ht₁ := fr.list R ht
 refine af <| aS <| ad rfl ⟨rfl, ht₁, R₁.noteAllX (c := .held r) (p := false) rfl hh (β := Option V) (mk := fun w => [some (.ref F.fl), some (.int ((r.val : Nat) : Int)), some (.ref lt), some (.ref (A₁.loc F (.held r))), w]) ht₁ (fun ξ => rfl) (fun ξ => rfl) (fun t ξ => ⟨some t.v, rfl⟩) (fun ξ ξ => rfl) none fun y H' S' R' fr' mo => ⟨rfl, ag ⟨rfl, ag (.inr ⟨rfl, ?_⟩)⟩⟩⟩
 exact ⟨A₁, S', R', fr.trans fr', mo⟩
theorem ok_put1X (R : Flow F H A S) {s : Site} {ts : List Tk} {lg lt : Nat} (hg : H[lg]? = some (.list [(Tk.site s).v])) (ht : H[lt]? = some (.list (ts.map Tk.v))) (hn : ¬ S (.gone s)) : Ok (bj [.ref F.fl, .ref lg, .ref lt]) H fun ξ H' => GoX F (fun f => ∃ t ∈ ts, f = .ins s t) H A S H' := by
 refine a9 rfl <| af <| aS <| ad rfl ⟨rfl, hg, ?_⟩
 refine qd (fun rest lc H' => (rest = [(Tk.site s).v] ∧ lc = [some (.ref F.fl), some (.ref lg), some (.ref lt), none, none, none, none] ∧ H' = H) ∨ (rest = [] ∧ H'[lg]? = some (.list [(Tk.site s).v]) ∧ GoX F (fun f => ∃ t ∈ ts, f = .ins s t) H A S H')) _ _ _ (.inl ⟨rfl, rfl, rfl⟩) (fun v r lc H' q => ?_) fun lc H' q => ?_
 ·rcases q with ⟨hr, rfl, rfl⟩ | ⟨hr, _⟩
  ·simp only [List.cons.injEq] at hr
   obtain ⟨rfl, rfl⟩ := hr
   refine ⟨hg, [some (.ref F.fl), some (.ref lg), some (.ref lt), some (Tk.site s).v, none, none, none], rfl, ?_⟩
   refine af <| aD <| aR <| ak <| ad rfl <| ok_C <| pt (t := .site s) (u := .beyond) ⟨_, rfl, ?_⟩
   rw [show decide ((Tk.site s).key = Tk.beyond.key) = false from decide_eq_false (fun q => by cases Tk.key_inj q)]
   refine af <| aD <| fS (t := .site s) <| ad rfl ⟨rfl, ?_⟩
   refine af <| aO <| bn <| R.at_inside rfl <| b8 (R.tab true).1 <| aa <| ak <| ad rfl <| ok_C <| dl <| aa <| cq <| ae <| R.setDef (p := true) (c := .ins s) .app rfl rfl ⟨0, aj⟩ (Nat.le_refl _) fun H₂ A₂ R₂ fr₂ hh => ⟨rfl, ?_⟩
   have ht₂ := fr₂.list R ht
   refine af <| aS <| ad rfl ⟨rfl, ht₂, R₂.noteAllX (c := .ins s) (p := true) rfl hh (β := Option V) (mk := fun w => [some (.ref F.fl), some (.ref lg), some (.ref lt), some (Tk.site s).v, some (.ref (A₂.loc F (.ins s))), w, none]) ht₂ (fun ξ => rfl) (fun ξ => rfl) (fun t ξ => ⟨some t.v, rfl⟩) (fun ξ ξ => rfl) none fun w H₃ S₃ R₃ fr₃ mo => ⟨rfl, ?_⟩⟩
   have hng : ¬ S₃ (.gone s) := fun q => by
    rcases (mo _).mp q with q | ⟨t, _, q⟩
    ·exact hn q
    ·cases q
   refine af <| aD <| aR <| ak <| ak <| ad rfl <| ok_C <| dl <| R₃.at_gone rfl <| R₃.inGone fun b hb => ⟨_, rfl, ?_⟩
   cases b with
   | true => exact absurd (hb.mp rfl) hng
   | false => exact ag ⟨rfl, ag ⟨rfl, ag ⟨rfl, ag ⟨.inl rfl, .inr ⟨rfl, (fr₂.trans fr₃).list R hg, A₂, S₃, R₃, fr₂.trans fr₃, mo⟩⟩⟩⟩⟩
  ·cases hr
 ·rcases q with ⟨hr, _⟩ | ⟨_, hl, g⟩
  ·cases hr
  ·exact ⟨hl, rfl, ag (.inr ⟨rfl, g⟩)⟩
end
noncomputable def p6 : List (V × V) → List (Key × V) → Nat → Option (List (Key × V) × Nat)
 | [], es, n => some (es, n)
 | (a, b) :: r, es, n => match a.key? with
  | some k => if fc es k && decide (es.length ≤ 1000) then p6 r (dput es k b) (n + 1) else none
  | none => none
section
variable {H L : MH} {P : V → MH → Prop} {B : Bool → MH → Prop} {T : Fl × Loc → MH → Prop} {loc : Loc}
theorem get_app {k : Nat} : (H ++ L)[H.length + k]? = L[k]? := by
 rw [List.getElem?_append_right (Nat.le_add_right ..)]
 congr 1
 omega
theorem g7 {k : Nat} {m : MObj} : (H ++ L).set (H.length + k) m = H ++ L.set k m := by
 rw [List.set_append_right _ _ (Nat.le_add_right ..)]
 congr 2
 omega
theorem dT (h : P (.ref (H.length + L.length)) (H ++ (L ++ [.dict [] 0]))) : Ok (ch loc) (H ++ L) P := cq (by rw [List.length_append, List.append_assoc]; exact h)
theorem aE {f : EM (List V)} (h : Ok (f loc) (H ++ L) fun l H' => ∃ L', H' = H ++ L' ∧ Nat.ble l.length 1000 = true ∧ P (.ref (H.length + L'.length)) (H ++ (L' ++ [.list l]))) : Ok (am f loc) (H ++ L) P :=
 aF (h.mono fun l H' q => by
  obtain ⟨L', rfl, q1, q2⟩ := q
  exact ⟨Nat.le_trans (Nat.le_of_ble_eq_true q1) (by decide), by rw [List.length_append, List.append_assoc]; exact q2⟩)
theorem aY {K : Addr} {name : Str} {l d : Nat} {ns : List (Str × V)} {v : V} (e1 : L[l]? = some (.inst K (H.length + d))) (e2 : L[d]? = some (.ns ns)) (e3 : Nat.ble ns.length 100 = true) (h : P .none (H ++ L.set d (.ns (nput ns name v)))) : Ok (fY K name (.ref (H.length + l)) v) (H ++ L) P :=
 kD (by rw [get_app]; exact e1) (by rw [get_app]; exact e2) (Nat.le_of_ble_eq_true e3) (by rw [g7]; exact h)
theorem iY {K : Addr} {name : Str} {l d : Nat} {ns : List (Str × V)} {v : V} (e1 : L[l]? = some (.inst K (H.length + d))) (e2 : L[d]? = some (.ns ns)) (e3 : nget ns name = some v) (e4 : v.isRaw = false) (h : P v (H ++ L)) : Ok (aG K name (.ref (H.length + l))) (H ++ L) P :=
 bE (by rw [get_app]; exact e1) (by rw [get_app]; exact e2) e3 e4 h
theorem kQ {K : Addr} {mi : List V → OM V} {l : List V} (h : Ok (mi (.ref (H.length + (L.length + 1)) :: l)) (H ++ (L ++ [.ns [], .inst K (H.length + L.length)])) fun v H' => v = .none ∧ P (.ref (H.length + (L.length + 1))) H') : Ok (gu K mi l) (H ++ L) P := by
 obtain ⟨v, H', e, rfl, q⟩ := h
 refine ⟨_, H', ?_, q⟩
 unfold gu
 have e1 : (H ++ L).length + 1 = H.length + (L.length + 1) := by rw [List.length_append]; omega
 have e2 : (H ++ L) ++ [MObj.ns [], .inst K (H ++ L).length] = H ++ (L ++ [.ns [], .inst K (H.length + L.length)]) := by rw [List.length_append, List.append_assoc]
 rw [e1, e2, e]
theorem eQ {l n : Nat} {es : List (Key × V)} {kv v : V} {k : Key} (e : L[l]? = some (.dict es n)) (hk : kv.key? = some k) (ho : fc es k = true) (hl : Nat.ble es.length 1000 = true) (h : P .none (H ++ L.set l (.dict (dput es k v) (n + 1)))) : Ok (cg (.ref (H.length + l)) kv v) (H ++ L) P := by
 have e' : (H ++ L)[H.length + l]? = some (.dict es n) := by rw [get_app]; exact e
 refine gE ⟨n, e'⟩ hk ho (Nat.le_trans (Nat.le_of_ble_eq_true hl) (by decide)) ?_
 unfold putD ni
 rw [e', g7]
 exact h
theorem dS {f : EM (List (V × V))} (h : Ok (f loc) (H ++ (L ++ [.dict [] 0])) fun l H₁ => ∃ L', H₁ = H ++ L' ∧ L'[L.length]? = some (.dict [] 0) ∧ ∃ es n, p6 l [] 0 = some (es, n) ∧ P (.ref (H.length + L.length)) (H ++ L'.set L.length (.dict es n))) : Ok (cP f loc) (H ++ L) P := by
 obtain ⟨l, H₁, e, L', rfl, hd, es, n, hp, q⟩ := h
 have key : ∀ (l : List (V × V)) (es : List (Key × V)) (n : Nat) (L' : MH), L'[L.length]? = some (.dict es n) → ∀ es' n', p6 l es n = some (es', n') → jo (.ref (H.length + L.length)) l (H ++ L') = some ((), H ++ L'.set L.length (.dict es' n')) := by
  intro l
  induction l with
  | nil =>
   intro es n L' hd es' n' hp
   cases hp
   rw [j8 hd]
   rfl
  | cons p l ih =>
   intro es n L' hd es' n' hp
   obtain ⟨a, b⟩ := p
   unfold p6 at hp
   split at hp
   ·rename_i k hk
    split at hp
    ·rename_i hc
     have hc' := hc
     simp only [Bool.and_eq_true, decide_eq_true_eq] at hc
     have e' : (H ++ L')[H.length + L.length]? = some (.dict es n) := by rw [get_app]; exact hd
     unfold jo
     show bnd (eB (.ref (H.length + L.length)) a b) _ _ = _
     unfold bnd eB fH
     have h2 : es.length ≤ lim := Nat.le_trans hc.2 (by decide)
     simp only [e', hk, hc.1, decide_eq_true h2, Bool.and_true, if_true]
     unfold putD ni
     rw [e', g7]
     have := ih (dput es k b) (n + 1) (L'.set L.length (.dict (dput es k b) (n + 1))) (by rw [List.getElem?_set_self (bA hd)]) es' n' hp
     rw [List.set_set] at this
     exact this
    ·cases hp
   ·cases hp
 refine ⟨_, _, ?_, q⟩
 unfold cP
 rw [List.append_assoc]
 unfold bnd
 rw [e]
 dsimp only
 rw [List.length_append, key l [] 0 L' hd es n hp]
 rfl
end
noncomputable def ptrT : V := .tup [.str "ptr", .tup [.str "int", .str "int"]]
noncomputable def f0 (n su : Nat) : MH := [.list [ptrT], .list [ptrT, ptrT, ptrT, ptrT, ptrT, ptrT, ptrT, ptrT], .list [], .list [.ref (n + 2), .tup [.str "return", .tup []]], .list [.ref (n + 3)],
 .ns [("key", .str "m.f"), ("params", .int 2), ("registers", .ref (n + 7)), ("blocks", .ref (n + 4)), ("captured", .int 0), ("results", .int 0), ("recovery", .none)], .inst 250 (n + 5), .list [ptrT, ptrT, ptrT, ptrT, ptrT, ptrT, ptrT, ptrT],
 .dict [(.p (.str "k"), .ref su)] 1,
 .ns [("code", .ref (n + 6)), ("summaries", .ref (n + 8)), ("held", .ref (n + 11)), ("inside", .ref (n + 12)), ("sites", .ref (n + 13)), ("gone", .ref (n + 14)), ("summary", .ref (n + 16)), ("is_new", .bool false)], .inst 204 (n + 9),
 .dict [(.p (.int 0), .ref (n + 20)), (.p (.int 1), .ref (n + 21))] 2, .dict [] 0, .dict [] 0, .dict [] 0,
 .ns [("leaks", .ref (n + 17)), ("kept", .ref (n + 18)), ("told", .ref (n + 19))], .inst 54 (n + 15), .dict [] 0, .dict [] 0, .dict [] 0,
 .dict [(.t [.str "outer", .int 0], .bool true)] 1, .dict [(.t [.str "outer", .int 1], .bool true)] 1]
noncomputable def nsF (n : Nat) : List (Str × V) := [("code", .ref (n + 6)), ("summaries", .ref (n + 8)), ("held", .ref (n + 11)), ("inside", .ref (n + 12)), ("sites", .ref (n + 13)), ("gone", .ref (n + 14)), ("summary", .ref (n + 16)), ("is_new", .bool false)]
noncomputable def ln (n su m j : Nat) : MH := (((f0 n su).set 11 (.dict [] 0)).take m).set 9 (.ns ((nsF n).take j))
section
variable {H L : MH} {P : V → MH → Prop} {B : Bool → MH → Prop} {T : Fl × Loc → MH → Prop} {loc : Loc}
theorem kC {α : Type} {x : OM α} {P : α → MH → Prop} (h : Ok x (H ++ []) P) : Ok x H P := by rw [List.append_nil] at h; exact h
theorem kB (h : P (.ref (H.length + 1)) (H ++ [.ns [("leaks", .ref (H.length + 2)), ("kept", .ref (H.length + 3)), ("told", .ref (H.length + 4))], .inst 54 (H.length + 0), .dict [] 0, .dict [] 0, .dict [] 0])) : Ok (gu 54 ce []) H P := by
 refine kC <| kQ <| a9 rfl <| af <| aW <| dT <| ad rfl <| aY (l := 1) (d := 0) rfl rfl rfl ⟨rfl, ?_⟩
 refine af <| aW <| dT <| ad rfl <| aY (l := 1) (d := 0) rfl rfl rfl ⟨rfl, ?_⟩
 refine af <| aW <| dT <| ad rfl <| aY (l := 1) (d := 0) rfl rfl rfl ⟨rfl, ?_⟩
 exact ag (.inr ⟨rfl, rfl, h⟩)
theorem n5 (h : P (.ref (H.length + (L.length + 1))) (H ++ (L ++ [.ns [("leaks", .ref (H.length + (L.length + 2))), ("kept", .ref (H.length + (L.length + 3))), ("told", .ref (H.length + (L.length + 4)))], .inst 54 (H.length + L.length), .dict [] 0, .dict [] 0, .dict [] 0]))) : Ok (gu 54 ce []) (H ++ L) P := by
 refine kB ?_
 rw [List.length_append, List.append_assoc]
 simp only [Nat.add_assoc, Nat.add_zero]
 exact h
theorem okA_mulL {k : Nat} {xs : List V} {i : Int} (e : L[k]? = some (.list xs)) (hi : 0 ≤ i ∧ i ≤ 1000) (hx : Nat.ble xs.length 100 = true) (h : P (.ref (H.length + L.length)) (H ++ (L ++ [.list (List.replicate i.toNat xs).flatten]))) : Ok (kY (.ref (H.length + k)) (.int i)) (H ++ L) P := by
 refine ⟨_, _, ?_, h⟩
 have e' : (H ++ L)[H.length + k]? = some (.list xs) := by rw [get_app]; exact e
 unfold kY
 rw [cY e']
 dsimp only
 rw [if_pos ⟨hi.1, hi.2, Nat.le_of_ble_eq_true hx⟩, List.length_append, List.append_assoc]
theorem okA_list {k : Nat} {xs : List V} (e : L[k]? = some (.list xs)) (hx : Nat.ble xs.length 1000 = true) (h : P (.ref (H.length + L.length)) (H ++ (L ++ [.list xs]))) : Ok (eG [.ref (H.length + k)]) (H ++ L) P :=
 jX (by rw [get_app]; exact e) (Nat.le_trans (Nat.le_of_ble_eq_true hx) (by decide)) (by rw [List.length_append, List.append_assoc]; exact h)
theorem gm {ok : MH → Prop} {b : TM} {g : SM} {v : V} {r : List V} {loc₁ : Loc} (hok : ok H) (hb : b v loc = some loc₁) (h : Ok (g loc₁) H fun x H' => (x.1 = .next ∨ x.1 = .cont) ∧ Ok (bt ok b g r x.2) H' T) : Ok (bt ok b g (v :: r) loc) H T := by
 obtain ⟨⟨x, loc₂⟩, H', e, hx, y, H₂, e₂, q⟩ := h
 refine ⟨y, H₂, ?_, q⟩
 rw [ge, if_pos hok, hb]
 dsimp only
 rw [e]
 rcases hx with hx | hx
 ·obtain rfl : x = .next := hx
  exact e₂
 ·obtain rfl : x = .cont := hx
  exact e₂
theorem lV {ok : MH → Prop} {b : TM} {g : SM} (hok : ok H) (h : T (.next, loc) H) : Ok (bt ok b g [] loc) H T := ⟨_, H, by rw [fO, if_pos hok], h⟩
theorem ju {b : Int} {SP : Src → MH → Prop} (h1 : -1000000 ≤ b ∧ b ≤ 1000000) (h : SP (.range 0 b.toNat) H) : Ok (dJ [.int b]) H SP := ⟨_, H, if_pos h1, h⟩
theorem qZ {a b : Int} {SP : Src → MH → Prop} (h1 : -1000000 ≤ a ∧ a ≤ 1000000 ∧ -1000000 ≤ b ∧ b ≤ 1000000) (h : SP (.range a (b - a).toNat) H) : Ok (dJ [.int a, .int b]) H SP := ⟨_, H, if_pos h1, h⟩
theorem po {su : Nat} (h : P (.ref (H.length + 10)) (H ++ f0 H.length su)) : Ok (ff [.ref su]) H P := by
 refine kC <| a9 rfl <| af <| aO <| aC <| aa <| ok_C <| aa <| ok_C <| aa <| ak <| aE <| aa <| aB <| aa <| ok_C <| aa <| aB <| aa <| ok_C <| aa <| ok_C <| ae ⟨by decide, ae ⟨by decide, ae ⟨[], rfl, rfl, ?_⟩⟩⟩
 refine ok_C <| okA_mulL (k := 0) rfl (by decide) rfl <| aa <| aE <| aa <| aE <| aa <| aE <| ae ⟨_, rfl, rfl, aa <| aB <| aa <| ok_C <| aa <| aB <| ae ⟨by decide, ae ⟨by decide, ae ⟨_, rfl, rfl, ae ⟨_, rfl, rfl, ae ?_⟩⟩⟩⟩⟩
 refine kQ <| a9 rfl <| af <| aW <| ad rfl <| ad rfl <| aY (l := 6) (d := 5) rfl rfl rfl ⟨rfl, ?_⟩
 refine af <| aW <| ad rfl <| ad rfl <| aY (l := 6) (d := 5) rfl rfl rfl ⟨rfl, ?_⟩
 refine af <| aW <| aC <| aa <| ad rfl <| ae <| okA_list (k := 1) rfl rfl <| ad rfl <| aY (l := 6) (d := 5) rfl rfl rfl ⟨rfl, ?_⟩
 refine af <| aW <| ad rfl <| ad rfl <| aY (l := 6) (d := 5) rfl rfl rfl ⟨rfl, ?_⟩
 refine af <| aW <| ad rfl <| ad rfl <| aY (l := 6) (d := 5) rfl rfl rfl ⟨rfl, ?_⟩
 refine af <| aW <| ad rfl <| ad rfl <| aY (l := 6) (d := 5) rfl rfl rfl ⟨rfl, ?_⟩
 refine af <| aW <| ad rfl <| ad rfl <| aY (l := 6) (d := 5) rfl rfl rfl ⟨rfl, ag (.inr ⟨rfl, rfl, rfl, ?_⟩)⟩
 show Ok _ (H ++ (f0 H.length su).take 8) _
 refine aK <| bZ <| aC <| aa <| ad rfl <| aa <| dS <| bl <| ok_C <| ad rfl <| dw ⟨_, rfl, rfl, _, _, rfl, ae ?_⟩
 show Ok _ (H ++ (f0 H.length su).take 9) _
 refine kQ <| a9 rfl <| af <| aW <| ad rfl <| ad rfl <| aY (l := 10) (d := 9) rfl rfl rfl ⟨rfl, ?_⟩
 show Ok _ (H ++ ln H.length su 11 1) _
 refine af <| aW <| ad rfl <| ad rfl <| aY (l := 10) (d := 9) rfl rfl rfl ⟨rfl, ?_⟩
 show Ok _ (H ++ ln H.length su 11 2) _
 refine af <| aW <| dT <| ad rfl <| aY (l := 10) (d := 9) rfl rfl rfl ⟨rfl, ?_⟩
 show Ok _ (H ++ ln H.length su 12 3) _
 refine af <| aW <| dT <| ad rfl <| aY (l := 10) (d := 9) rfl rfl rfl ⟨rfl, ?_⟩
 show Ok _ (H ++ ln H.length su 13 4) _
 refine af <| aW <| dT <| ad rfl <| aY (l := 10) (d := 9) rfl rfl rfl ⟨rfl, ?_⟩
 show Ok _ (H ++ ln H.length su 14 5) _
 refine af <| aW <| dT <| ad rfl <| aY (l := 10) (d := 9) rfl rfl rfl ⟨rfl, ?_⟩
 show Ok _ (H ++ ln H.length su 15 6) _
 refine af <| aW <| aC <| ae <| n5 <| ad rfl <| aY (l := 10) (d := 9) rfl rfl rfl ⟨rfl, ?_⟩
 show Ok _ (H ++ ln H.length su 20 7) _
 refine af <| aW <| ok_C <| ad rfl <| aY (l := 10) (d := 9) rfl rfl rfl ⟨rfl, ?_⟩
 show Ok _ (H ++ ((f0 H.length su).take 20).set 11 (.dict [] 0)) _
 refine af <| b5 <| iz <| aa <| ak <| cA <| ad rfl <| iY (l := 6) (d := 5) rfl rfl rfl rfl <| cA <| ad rfl <| iY (l := 6) (d := 5) rfl rfl rfl rfl <| dG <| ae <| ju (by decide) ?_
 refine gm trivial rfl <| af <| bi <| dS <| bl <| aB <| aa <| ok_C <| aa <| ad rfl <| ae ⟨lim2, ok_C <| dw ⟨_, rfl, rfl, _, _, rfl, ?_⟩⟩
 refine cA <| ad rfl <| iY (l := 10) (d := 9) rfl rfl rfl rfl <| ad rfl <| eQ (l := 11) rfl rfl rfl rfl ⟨rfl, ag ⟨.inl rfl, ?_⟩⟩
 show Ok _ (H ++ ((f0 H.length su).take 21).set 11 (.dict [(.p (.int 0), .ref (H.length + 20))] 1)) _
 refine gm trivial rfl <| af <| bi <| dS <| bl <| aB <| aa <| ok_C <| aa <| ad rfl <| ae ⟨lim2, ok_C <| dw ⟨_, rfl, rfl, _, _, rfl, ?_⟩⟩
 refine cA <| ad rfl <| iY (l := 10) (d := 9) rfl rfl rfl rfl <| ad rfl <| eQ (l := 11) rfl rfl rfl rfl ⟨rfl, ag ⟨.inl rfl, ?_⟩⟩
 refine lV trivial ⟨rfl, ag (.inr ⟨rfl, rfl, .inl ⟨_, rfl, ?_⟩⟩)⟩
 exact h
end
noncomputable def ik (n : Nat) : Fix := { fl := n + 10, d := n + 9, cd := n + 6, sm := n + 8, dh := n + 11, di := n + 12, ds := n + 13, dg := n + 14, su := n + 16, sd := n + 15, lv := n + 17, kp := n + 18, tl := n + 19 }
noncomputable def atOf (n : Nat) : At := ⟨fun p => if p then [] else [.held 0, .held 1], fun c => match c with
 | .held r => n + (20 + r.val)
 | _ => 0⟩
noncomputable def SI : St := fun f => f = .held 0 (.out false) ∨ f = .held 1 (.out true)
theorem gY {n : Nat} {c : Cont} (h : (atOf n).has c) : c = .held 0 ∨ c = .held 1 ∨ c = .gone ∨ c = .leaks ∨ c = .kept := by
 unfold At.has at h
 cases c with
 | held r =>
  have h' : Cont.held r ∈ [Cont.held 0, Cont.held 1] := h
  rcases List.mem_cons.mp h' with h' | h'
  ·exact .inl h'
  ·exact .inr (.inl (List.mem_singleton.mp h'))
 | ins s => cases (show Cont.ins s ∈ ([] : List Cont) from h)
 | gone => simp
 | leaks => simp
 | kept => simp
theorem rE {H : MH} {su : Nat} : Flow (ik H.length) (H ++ f0 H.length su) (atOf H.length) SI := by
 refine {
  fl := get_app.trans rfl
  d := ⟨false, get_app.trans rfl⟩
  su := get_app.trans rfl
  sd := get_app.trans rfl
  tabs := fun e => absurd (Nat.add_left_cancel e) (by decide)
  nsd := fun e => absurd (Nat.add_left_cancel e) (by decide)
  tab := fun p => ?_
  set := fun c hc => ?_
  dom := fun f hf => ?_
  inj := fun c c' hc hc' e => ?_
  sep := fun c hc p => ?_ }
 ·cases p with
  | false => exact ⟨⟨2, get_app.trans rfl⟩, by simp [atOf], fun c hc => by
    rcases List.mem_cons.mp hc with rfl | hc
    ·rfl
    ·rw [List.mem_singleton.mp hc]; rfl⟩
  | true => exact ⟨⟨0, get_app.trans rfl⟩, .nil, fun c hc => by cases hc⟩
 ·rcases gY hc with rfl | rfl | rfl | rfl | rfl
  ·exact ⟨[.held 0 (.out false)], ⟨1, get_app.trans rfl⟩, by simp, fun f => by
    rw [List.mem_singleton]
    constructor
    ·rintro rfl; exact ⟨.inl rfl, rfl⟩
    ·rintro ⟨rfl | rfl, h⟩
     ·rfl
     ·cases h⟩
  ·exact ⟨[.held 1 (.out true)], ⟨1, get_app.trans rfl⟩, by simp, fun f => by
    rw [List.mem_singleton]
    constructor
    ·rintro rfl; exact ⟨.inr rfl, rfl⟩
    ·rintro ⟨rfl | rfl, h⟩
     ·cases h
     ·rfl⟩
  all_goals
   refine ⟨[], ⟨0, get_app.trans rfl⟩, .nil, fun f => ⟨fun h => (by cases h), fun h => ?_⟩⟩
   obtain ⟨rfl | rfl, h⟩ := h <;> cases h
 ·rcases hf with rfl | rfl <;> (show _ ∈ [Cont.held 0, Cont.held 1]; simp [Fact.cont])
 ·rcases gY hc with rfl | rfl | rfl | rfl | rfl <;> rcases gY hc' with rfl | rfl | rfl | rfl | rfl <;> first | rfl | exact absurd (Nat.add_left_cancel (n := H.length) e) (by decide)
 ·rcases gY hc with rfl | rfl | rfl | rfl | rfl <;> cases p <;> exact fun e => absurd (Nat.add_left_cancel (n := H.length) e) (by decide)
structure Ctx (F : Fix) (G : TFix) (K : BFix) (Gb : TB) (W W' : Told) (r : Bool → Fin 8) (lr n0 : Nat) (H0 H : MH) (A : At) (S SB : St) : Prop where
 fl : Flow F H A S
 tf : TFlow F G H A W'
 bk : Book K H SB
 tb : TBook K Gb H W
 hr : H[lr]? = some (.list (opB r))
 fr : Free K lr
 td : Gb.td < n0
 own : ∀ i, (i < n0 ∨ i = K.bk ∨ i = K.hd ∨ i = K.is) → ¬ Own F A i
 old : ∀ i, i < n0 → Free K i → H[i]? = H0[i]?
 len : n0 ≤ H.length
section
variable {F : Fix} {G G' : TFix} {K : BFix} {Gb : TB} {W W' W'' : Told} {r : Bool → Fin 8} {lr n0 : Nat} {H0 H H' : MH} {A A' : At} {S S' SB SB' : St}
theorem Book.obj_free (R : Book K H S) {i : Nat} {m : MObj} (e : H[i]? = some m) (n : ∀ xs, m ≠ .list xs) : Free K i := fun c q => by
 obtain ⟨fs, h, ξ⟩ := R.set c
 rw [q, h] at e
 cases e
 exact n _ rfl
theorem Flow.keep (R : Flow F H A S) (k : ∀ i m, H[i]? = some m → (∀ xs, m ≠ .list xs) → (Own F A i ∨ i = F.fl ∨ i = F.su ∨ i = F.sd) → i ≠ F.d → H'[i]? = some m) (hd : ∃ b, H'[F.d]? = some (.ns (F.ns b))) : Flow F H' A S := by
 obtain ⟨b, d⟩ := R.d
 have ne : ∀ {i : Nat} {m : MObj}, H[i]? = some m → (∀ b, m ≠ .ns b) → i ≠ F.d := fun e n q => by rw [q, d] at e; cases e; exact n _ rfl
 exact {
  fl := k _ _ R.fl (fun ξ q => by cases q) (.inr (.inl rfl)) (ne R.fl fun ξ q => by cases q)
  d := hd
  su := k _ _ R.su (fun ξ q => by cases q) (.inr (.inr (.inl rfl))) (ne R.su fun ξ q => by cases q)
  sd := k _ _ R.sd (fun ξ q => by cases q) (.inr (.inr (.inr rfl))) fun q => R.nsd q.symm
  tabs := R.tabs
  nsd := R.nsd
  tab := fun p => ⟨by obtain ⟨n, e⟩ := (R.tab p).1; exact ⟨n, k _ _ e (fun ξ q => by cases q) (.inl (.inr (.inl ⟨p, rfl⟩))) (ne e fun ξ q => by cases q)⟩, (R.tab p).2⟩
  set := fun c hc => by obtain ⟨fs, ⟨n, e⟩, r⟩ := R.set c hc; exact ⟨fs, ⟨n, k _ _ e (fun ξ q => by cases q) (.inl (.inr (.inr ⟨c, hc, rfl⟩))) (ne e fun ξ q => by cases q)⟩, r⟩
  dom := R.dom
  inj := R.inj
  sep := R.sep }
theorem Book.keep (R : Book K H S) (k : ∀ i m, H[i]? = some m → ((∃ xs, m = .list xs) ∨ i = K.bk ∨ i = K.hd ∨ i = K.is) → H'[i]? = some m) : Book K H' S := {
 bk := by obtain ⟨n, e⟩ := R.bk; exact ⟨n, k _ _ e (.inr (.inl rfl))⟩
 hd := by obtain ⟨n, e⟩ := R.hd; exact ⟨n, k _ _ e (.inr (.inr (.inl rfl)))⟩
 is := by obtain ⟨n, e⟩ := R.is; exact ⟨n, k _ _ e (.inr (.inr (.inr rfl)))⟩
 set := fun c => by obtain ⟨fs, e, r⟩ := R.set c; exact ⟨fs, k _ _ e (.inl ⟨_, rfl⟩), r⟩
 inj := R.inj }
theorem TBook.keep (R : TBook K Gb H W) (k : ∀ i m, H[i]? = some m → ((∃ xs, m = .list xs) ∨ i = Gb.td) → H'[i]? = some m) : TBook K Gb H' W := {
 td := by obtain ⟨n, e⟩ := R.td; exact ⟨n, k _ _ e (.inr rfl)⟩
 lv := k _ _ R.lv (.inl ⟨_, rfl⟩)
 kp := k _ _ R.kp (.inl ⟨_, rfl⟩)
 tl := k _ _ R.tl (.inl ⟨_, rfl⟩)
 t := fun b => k _ _ (R.t b) (.inl ⟨_, rfl⟩)
 flv := R.flv
 fkp := R.fkp
 ftl := R.ftl
 ft := R.ft
 ftd := R.ftd }
theorem Ctx.own_d (x : Ctx F G K Gb W W' r lr n0 H0 H A S SB) : Own F A F.d := .inl rfl
theorem Ctx.flow (x : Ctx F G K Gb W W' r lr n0 H0 H A S SB) (R : Flow F H' A' S') (f : Fr F H A H' A') : Ctx F G K Gb W W' r lr n0 H0 H' A' S' SB := {
 fl := R
 tf := x.tf.fr f
 bk := x.bk.keep fun i m e q => by
  rcases q with ⟨xs, rfl⟩ | q
  ·exact f.list x.fl e
  ·exact f.get e (x.own i (.inr q))
 tb := x.tb.keep fun i m e q => by
  rcases q with ⟨xs, rfl⟩ | q
  ·exact f.list x.fl e
  ·exact f.get e (x.own i (.inl (by rw [q]; exact x.td)))
 hr := f.list x.fl x.hr
 fr := x.fr
 td := x.td
 own := fun i hi => by
  refine (f.2 i ?_ (x.own i hi)).2
  rcases hi with h | rfl | rfl | rfl
  ·exact Nat.lt_of_lt_of_le h x.len
  ·exact x.bk.bk.lt
  ·exact x.bk.hd.lt
  ·exact x.bk.is.lt
 old := fun i hi hf => (f.2 i (Nat.lt_of_lt_of_le hi x.len) (x.own i (.inl hi))).1.trans (x.old i hi hf)
 len := Nat.le_trans x.len f.1 }
theorem Ctx.ext (x : Ctx F G K Gb W W' r lr n0 H0 H A S SB) (e : Ext H H') : Ctx F G K Gb W W' r lr n0 H0 H' A S SB := x.flow (x.fl.ext e) e.fr
theorem Ctx.book (x : Ctx F G K Gb W W' r lr n0 H0 H A S SB) (R : Book K H' SB') (f : FrB K H H') : Ctx F G K Gb W W' r lr n0 H0 H' A S SB' := by
 have k : ∀ (i : Nat) (m : MObj), H[i]? = some m → (∀ xs, m ≠ .list xs) → H'[i]? = some m := fun i m e n => f.get e (x.bk.obj_free e n)
 have rep : TRep G F.sm H' W' := x.tf.rep.keep fun i m hi e => k i m e fun xs q => by
  subst q
  have r := x.tf.rep
  rcases hi with rfl | rfl | rfl | rfl | rfl | rfl | ⟨b, hb, rfl⟩
  ·obtain ⟨n, e'⟩ := r.sm; rw [e] at e'; cases e'
  ·have := r.su; rw [e] at this; cases this
  ·have := r.sd; rw [e] at this; cases this
  ·obtain ⟨n, e'⟩ := r.lv; rw [e] at e'; cases e'
  ·obtain ⟨n, e'⟩ := r.kp; rw [e] at e'; cases e'
  ·obtain ⟨n, e'⟩ := r.tl; rw [e] at e'; cases e'
  ·obtain ⟨n, e'⟩ := r.t b hb; rw [e] at e'; cases e'
 exact {
  fl := x.fl.keep (fun i m e n ξ ξ => k i m e n) (by obtain ⟨b, e⟩ := x.fl.d; exact ⟨b, k _ _ e fun ξ q => by cases q⟩)
  tf := ⟨rep, x.tf.free⟩
  bk := R
  tb := x.tb.fr f
  hr := f.get x.hr x.fr
  fr := x.fr
  td := x.td
  own := x.own
  old := fun i hi hf => (f.2 i (Nat.lt_of_lt_of_le hi x.len) hf).trans (x.old i hi hf)
  len := Nat.le_trans x.len f.1 }
theorem Ctx.chg (x : Ctx F G K Gb W W' r lr n0 H0 H A S SB) (X : Nat → Prop) (hlen : H.length ≤ H'.length) (same : ∀ i, i < H.length → ¬ X i → i ≠ F.d → H'[i]? = H[i]?)
  (hX : ∀ i, X i → n0 ≤ i ∧ ¬ Own F A i ∧ i ≠ K.bk ∧ i ≠ K.hd ∧ i ≠ K.is ∧ ∃ es, IsD H i es) (hd : ∃ b, H'[F.d]? = some (.ns (F.ns b))) (hT : TRep G' F.sm H' W'') (hf : ∀ i, TMem G' F.sm W'' i → ¬ Own F A i) : Ctx F G' K Gb W W'' r lr n0 H0 H' A S SB := by
 obtain ⟨b0, d0⟩ := x.fl.d
 have k : ∀ (i : Nat) (m : MObj), H[i]? = some m → ¬ X i → i ≠ F.d → H'[i]? = some m := fun i m e h1 h2 => (same i (bA e) h1 h2).trans e
 have kl : ∀ (i : Nat) (xs : List V), H[i]? = some (MObj.list xs) → H'[i]? = some (MObj.list xs) := fun i xs e => k i _ e (fun q => by
  obtain ⟨ξ, ξ, ξ, ξ, ξ, es, n, e'⟩ := hX i q
  rw [e] at e'; cases e') fun q => by rw [q, d0] at e; cases e
 have nd : ∀ i, (i < n0 ∨ i = K.bk ∨ i = K.hd ∨ i = K.is) → i ≠ F.d := fun i hi q => x.own i hi (.inl q)
 exact {
  fl := x.fl.keep (fun i m e n q ne => k i m e (fun hx => by
   obtain ⟨h1, h2, h3, h4, h5, es, n', e'⟩ := hX i hx
   rcases q with q | rfl | rfl | rfl
   ·exact h2 q
   ·rw [x.fl.fl] at e'; cases e'
   ·rw [x.fl.su] at e'; cases e'
   ·rw [x.fl.sd] at e'; cases e') ne) hd
  tf := ⟨hT, hf⟩
  bk := x.bk.keep fun i m e q => by
   rcases q with ⟨xs, rfl⟩ | q
   ·exact kl i xs e
   ·refine k i m e (fun hx => ?_) (nd i (.inr q))
    obtain ⟨h1, h2, h3, h4, h5, ξ⟩ := hX i hx
    rcases q with q | q | q
    ·exact h3 q
    ·exact h4 q
    ·exact h5 q
  tb := x.tb.keep fun i m e q => by
   rcases q with ⟨xs, rfl⟩ | q
   ·exact kl i xs e
   ·have hi : i < n0 := by rw [q]; exact x.td
    exact k i m e (fun hx => by have := (hX i hx).1; omega) (nd i (.inl hi))
  hr := kl _ _ x.hr
  fr := x.fr
  td := x.td
  own := x.own
  old := fun i hi hf => (same i (Nat.lt_of_lt_of_le hi x.len) (fun hx => by have := (hX i hx).1; omega) (nd i (.inl hi))).trans (x.old i hi hf)
  len := Nat.le_trans x.len hlen }
end
structure TDi (G : TFix) (K : BFix) (sm n0 : Nat) (u : Bool → List (Option Bool)) : Prop where
 lk : G.lv ≠ G.kp
 lt : G.lv ≠ G.tl
 kt : G.kp ≠ G.tl
 t : ∀ b, u b ≠ [] → G.t b ≠ G.lv ∧ G.t b ≠ G.kp ∧ G.t b ≠ G.tl
 tt : u false ≠ [] → u true ≠ [] → G.t false ≠ G.t true
 far : ∀ i, (i = G.lv ∨ i = G.kp ∨ i = G.tl ∨ ∃ b, u b ≠ [] ∧ i = G.t b) → n0 ≤ i ∧ i ≠ K.bk ∧ i ≠ K.hd ∧ i ≠ K.is ∧ i ≠ sm
section
variable {F : Fix} {G G' : TFix} {K : BFix} {Gb : TB} {W W' W'' : Told} {r : Bool → Fin 8} {lr n0 : Nat} {H0 H H' : MH} {A A' : At} {S S' SB SB' : St} {P : V → MH → Prop} {T : Fl × Loc → MH → Prop} {loc : Loc}
theorem Flow.callI (R : Flow F H A S) {i : Nat} {name : Str} {m : List V → OM V} {fa : EM (List V)} (hl : loc[i]? = some (some (.ref F.fl))) (hn : ∀ b, nget (F.ns b) name = none) (h : Ok (fa loc) H fun l H' => Ok (m (.ref F.fl :: l)) H' P) : Ok (aw (au 204 name) m (eLoc i) fa loc) H P :=
 bn (ad hl (R.bound hn h))
theorem iV (R : Flow F H A S) {l : Nat} {ks : List Key} {k : Key} (hk : IsD H l (ks.map ent)) (hl : ks.length ≤ 1000) (ho : fc (ks.map ent) k = true) (hn : k ∉ ks) :
  Ok (ar [.ref F.fl, .ref l, .ofKey k]) H fun ξ H' => H.length ≤ H'.length ∧ (∀ i, i < H.length → i ≠ l → i ≠ F.d → H'[i]? = H[i]?) ∧ IsD H' l ((ks ++ [k]).map ent) ∧ ∃ b, H'[F.d]? = some (.ns (F.ns b)) := by
 obtain ⟨b, hd⟩ := R.d
 refine kE R.fl hd (by simp [Fix.ns]) hk hl ho (fun q => absurd q hn) fun ξ => ?_
 rw [kT]
 have ne : F.d ≠ l := fun q => by obtain ⟨n, e⟩ := hk; rw [← q, hd] at e; cases e
 refine ⟨by unfold putD; simp, fun i ξ h1 h2 => ?_, ?_, true, List.getElem?_set_self (by unfold putD; rw [List.length_set]; exact bA hd)⟩
 ·rw [List.getElem?_set_ne (fun q => h2 q.symm)]
  unfold putD
  rw [List.getElem?_set_ne (fun q => h1 q.symm)]
 ·obtain ⟨n, e⟩ := gf (es' := (ks ++ [k]).map ent) hk
  exact ⟨n, by rw [List.getElem?_set_ne ne]; exact e⟩
structure TUpd (G : TFix) (sm : Nat) (W' : Told) (X : Nat → Prop) (H' : MH) : Prop where
 u1 : ¬ X sm → IsD H' sm [(.p (.str "k"), .ref G.su)]
 u2 : H'[G.su]? = some (.inst 54 G.sd)
 u3 : H'[G.sd]? = some (.ns [("leaks", .ref G.lv), ("kept", .ref G.kp), ("told", .ref G.tl)])
 u4 : ¬ X G.lv → IsD H' G.lv ((W'.leaks.map loK).map ent)
 u5 : ¬ X G.kp → IsD H' G.kp ((W'.kept.map kpK).map ent)
 u6 : ¬ X G.tl → IsD H' G.tl (tabT W' G)
 u7 : ∀ b, W'.t b ≠ [] → ¬ X (G.t b) → IsD H' (G.t b) (((W'.t b).map tdK).map ent)
theorem TRep.upd {sm : Nat} (r : TRep G sm H W') (d : Nat) (hd : ∀ i, TMem G sm W' i → i ≠ d) (X : Nat → Prop) (hX : ∀ i, X i → ∃ es, IsD H i es) (same : ∀ i, i < H.length → ¬ X i → i ≠ d → H'[i]? = H[i]?) :
  TUpd G sm W' X H' := by
 have k : ∀ (i : Nat) (m : MObj), TMem G sm W' i → ¬ X i → H[i]? = some m → H'[i]? = some m := fun i m hi h e => (same i (bA e) h (hd i hi)).trans e
 have kd : ∀ (i : Nat) (es : List (Key × V)), TMem G sm W' i → ¬ X i → IsD H i es → IsD H' i es := fun i es hi h x => by obtain ⟨n, e⟩ := x; exact ⟨n, k i _ hi h e⟩
 refine ⟨fun h => kd _ _ (.inl rfl) h r.sm, k _ _ (.inr (.inl rfl)) (fun q => ?_) r.su, k _ _ (.inr (.inr (.inl rfl))) (fun q => ?_) r.sd, fun h => kd _ _ (.inr (.inr (.inr (.inl rfl)))) h r.lv, fun h => kd _ _ (.inr (.inr (.inr (.inr (.inl rfl))))) h r.kp, fun h => kd _ _ (.inr (.inr (.inr (.inr (.inr (.inl rfl)))))) h r.tl, fun b hb h => kd _ _ (.inr (.inr (.inr (.inr (.inr (.inr ⟨b, hb, rfl⟩)))))) h (r.t b hb)⟩
 ·obtain ⟨es, n, el⟩ := hX _ q
  have := r.su; rw [el] at this; cases this
 ·obtain ⟨es, n, el⟩ := hX _ q
  have := r.sd; rw [el] at this; cases this
theorem Ctx.tne (x : Ctx F G K Gb W W' r lr n0 H0 H A S SB) : ∀ i, TMem G F.sm W' i → i ≠ F.d := fun i hi q => x.tf.free i hi (.inl q)
theorem Ctx.leak1 (x : Ctx F G K Gb W W' r lr n0 H0 H A S SB) (D : TDi G K F.sm n0 W'.t) {i : Option Bool} (hi : i ∉ W'.leaks) (hl : W'.leaks.length ≤ 900) :
  Ok (ar [.ref F.fl, .ref G.lv, .int (lo i)]) H fun ξ H' => Ctx F G K Gb W ⟨W'.leaks ++ [i], W'.kept, W'.t⟩ r lr n0 H0 H' A S SB := by
 refine (iV x.fl (k := loK i) x.tf.rep.lv (by rw [List.length_map]; omega) (dz fun k hk => by obtain ⟨j, ξ, rfl⟩ := List.mem_map.mp hk; rfl) (fun q => by obtain ⟨j, hj, e⟩ := List.mem_map.mp q; rw [mY _ _ e] at hj; exact hi hj)).mono fun ξ H' q => ?_
 obtain ⟨q1, q2, q3, q4⟩ := q
 have U := x.tf.rep.upd F.d x.tne (fun i => i = G.lv) (fun i hi => by subst hi; exact ⟨_, x.tf.rep.lv⟩) q2
 have f := D.far G.lv (.inl rfl)
 refine x.chg (fun i => i = G.lv) q1 q2 (fun i hi => by subst hi; exact ⟨f.1, x.tf.free _ (.inr (.inr (.inr (.inl rfl)))), f.2.1, f.2.2.1, f.2.2.2.1, _, x.tf.rep.lv⟩) q4 ⟨U.u1 f.2.2.2.2.symm, U.u2, U.u3, ?_, U.u5 D.lk.symm, U.u6 D.lt.symm, fun b hb => U.u7 b hb (D.t b hb).1⟩ x.tf.free
 rw [List.map_append]
 exact q3
theorem Ctx.kept1 (x : Ctx F G K Gb W W' r lr n0 H0 H A S SB) (D : TDi G K F.sm n0 W'.t) {i : Inr × Option Bool} (hi : i ∉ W'.kept) (hl : W'.kept.length ≤ 900) :
  Ok (ar [.ref F.fl, .ref G.kp, .tup [.int i.1.int, .int (lo i.2)]]) H fun ξ H' => Ctx F G K Gb W ⟨W'.leaks, W'.kept ++ [i], W'.t⟩ r lr n0 H0 H' A S SB := by
 refine (iV x.fl (k := kpK i) x.tf.rep.kp (by rw [List.length_map]; omega) (dz fun k hk => by obtain ⟨j, ξ, rfl⟩ := List.mem_map.mp hk; rfl) (fun q => by obtain ⟨j, hj, e⟩ := List.mem_map.mp q; rw [jZ _ _ e] at hj; exact hi hj)).mono fun ξ H' q => ?_
 obtain ⟨q1, q2, q3, q4⟩ := q
 have U := x.tf.rep.upd F.d x.tne (fun i => i = G.kp) (fun i hi => by subst hi; exact ⟨_, x.tf.rep.kp⟩) q2
 have f := D.far G.kp (.inr (.inl rfl))
 refine x.chg (fun i => i = G.kp) q1 q2 (fun i hi => by subst hi; exact ⟨f.1, x.tf.free _ (.inr (.inr (.inr (.inr (.inl rfl))))), f.2.1, f.2.2.1, f.2.2.2.1, _, x.tf.rep.kp⟩) q4 ⟨U.u1 f.2.2.2.2.symm, U.u2, U.u3, U.u4 D.lk, ?_, U.u6 D.kt.symm, fun b hb => U.u7 b hb (D.t b hb).2.1⟩ x.tf.free
 rw [List.map_append]
 exact q3
noncomputable def addT (t : Bool → List (Option Bool)) (b : Bool) (j : Option Bool) : Bool → List (Option Bool) := fun c => if c = b then t b ++ [j] else t c
theorem j1 {t : Bool → List (Option Bool)} {b : Bool} {j : Option Bool} : addT t b j b = t b ++ [j] := if_pos rfl
theorem jh {t : Bool → List (Option Bool)} {b c : Bool} {j : Option Bool} (h : c ≠ b) : addT t b j c = t c := if_neg h
theorem mD (W : Told) (G : TFix) (b : Bool) : dget (tabT W G) (.p (.int (oi b))) = if W.t b = [] then none else some (.ref (G.t b)) := by
 by_cases h0 : W.t false = [] <;> by_cases h1 : W.t true = [] <;> cases b <;> simp [tabT, h0, h1, dget, oi]
theorem jk (W : Told) (G : TFix) : allP (tabT W G) = true := by
 unfold tabT allP
 simp [Key.isP]
theorem tabT_len (W : Told) (G : TFix) : (tabT W G).length ≤ 2 := by
 unfold tabT
 rw [List.length_map]
 exact List.length_filter_le ..
theorem rG {W : Told} {G : TFix} {b : Bool} {j : Option Bool} {e : Nat} (h : W.t b = []) (ho : b = false → W.t true = []) :
  dput (tabT W G) (.p (.int (oi b))) (.ref e) = tabT ⟨W.leaks, W.kept, addT W.t b j⟩ { G with t := fun c => if c = b then e else G.t c } := by
 cases b
 ·have h1 := ho rfl
  simp [tabT, h, h1, addT, dput]
 ·by_cases h0 : W.t false = [] <;> simp [tabT, h, h0, addT, dput, oi]
theorem Ctx.told1 (x : Ctx F G K Gb W W' r lr n0 H0 H A S SB) (D : TDi G K F.sm n0 W'.t) {b : Bool} {j : Option Bool} (hj : j ∉ W'.t b) (hl : (W'.t b).length ≤ 900) (hord : b = false → W'.t true = [])
  (l4 : loc[4]? = some (some (.ref F.fl))) (l3 : loc[3]? = some (some (.ref G.su))) (l10 : loc[10]? = some (some (.int (oi b)))) (l9 : loc[9]? = some (some (.int (ii j))))
  {P : MH → Prop} (hq : ∀ t' H', Ctx F { G with t := t' } K Gb W ⟨W'.leaks, W'.kept, addT W'.t b j⟩ r lr n0 H0 H' A S SB → TDi { G with t := t' } K F.sm n0 (addT W'.t b j) → P H') :
  Ok (aw (au 204 "note") ar (eLoc 4) (ac (aw (au 54 "told_by") cC (eLoc 3) (ac (eLoc 10) (lNil))) (ac (eLoc 9) (lNil))) loc) H fun ξ => P := by
 have rp := x.tf.rep
 refine x.fl.callI l4 (fun ξ => rfl) <| aa <| bn <| ad l3 <| n4 rp.su rp.sd rfl <| aa <| ad l10 <| ae <| a9 rfl <| aK <| bZ <| bn <| cA <| ad rfl <| bE rp.su rp.sd rfl rfl <| b8 rp.tl <| aa <| ad rfl <| aa <| cq <| ae ?_
 have e₁ : Ext H (H ++ [MObj.dict [] 0]) := .app
 have x₁ := x.ext e₁
 have rp₁ := x₁.tf.rep
 have g₁ : IsD (H ++ [MObj.dict [] 0]) H.length [] := ⟨0, aj⟩
 have ft := D.far G.tl (.inr (.inr (.inl rfl)))
 have tlt := rp.tl.lt
 generalize H ++ [MObj.dict [] 0] = H₁ at e₁ x₁ rp₁ g₁ ⊢
 refine jt rp₁.tl (p := .int (oi b)) rfl (jk _ _) (Nat.le_trans (tabT_len _ _) (by decide)) (fun v hv => .inl ⟨_, rfl, ?_⟩) fun hv => .inl ⟨_, rfl, ?_⟩
 ·-- told before
  rw [mD] at hv
  by_cases hb : W'.t b = []
  ·rw [if_pos hb] at hv; cases hv
  ·rw [if_neg hb] at hv
   cases hv
   have fb := D.far (G.t b) (.inr (.inr (.inr ⟨b, hb, rfl⟩)))
   refine aa <| ad l9 <| ae <| (iV x₁.fl (k := tdK j) (rp₁.t b hb) (by rw [List.length_map]; omega) (dz fun k hk => by obtain ⟨j, ξ, rfl⟩ := List.mem_map.mp hk; rfl) (fun q => by obtain ⟨j', hj', e⟩ := List.mem_map.mp q; rw [tdK_inj _ _ e] at hj'; exact hj hj')).mono fun ξ H' q => ?_
   obtain ⟨q1, q2, q3, q4⟩ := q
   have U := rp₁.upd F.d x₁.tne (fun i => i = G.t b) (fun i hi => by subst hi; exact ⟨_, rp₁.t b hb⟩) q2
   have hne : ∀ c, addT W'.t b j c ≠ [] ↔ W'.t c ≠ [] := fun c => by
    by_cases hc : c = b
    ·subst hc; rw [j1]; simp [hb]
    ·rw [jh hc]
   refine hq G.t H' (x₁.chg (fun i => i = G.t b) q1 q2 (fun i hi => by subst hi; exact ⟨fb.1, x₁.tf.free _ (.inr (.inr (.inr (.inr (.inr (.inr ⟨b, hb, rfl⟩)))))), fb.2.1, fb.2.2.1, fb.2.2.2.1, _, rp₁.t b hb⟩) q4 ⟨U.u1 fb.2.2.2.2.symm, U.u2, U.u3, U.u4 (D.t b hb).1.symm, U.u5 (D.t b hb).2.1.symm, ?_, fun c hc => ?_⟩ fun i hi => ?_) ?_
   ·have : tabT ⟨W'.leaks, W'.kept, addT W'.t b j⟩ { G with t := G.t } = tabT W' G := by
     unfold tabT
     have : ∀ c, (addT W'.t b j c).isEmpty = (W'.t c).isEmpty := fun c => by
      have := hne c
      rw [Bool.eq_iff_iff, List.isEmpty_iff, List.isEmpty_iff]
      exact ⟨fun q => Classical.byContradiction fun w => this.mpr w q, fun q => Classical.byContradiction fun w => this.mp w q⟩
     simp only [this]
    rw [this]
    exact U.u6 (D.t b hb).2.2.symm
   ·show IsD H' (G.t c) (((addT W'.t b j c).map tdK).map ent)
    by_cases hcb : c = b
    ·subst hcb
     rw [j1, List.map_append]
     exact q3
    ·rw [jh hcb]
     have hc' : W'.t c ≠ [] := (hne c).mp hc
     refine U.u7 c hc' fun q => ?_
     cases c <;> cases b <;> first | exact hcb rfl | exact D.tt hc' hb q | exact D.tt hb hc' q.symm
   ·refine x₁.tf.free i ?_
    rcases hi with h | h | h | h | h | h | ⟨c, hc, h⟩
    ·exact .inl h
    ·exact .inr (.inl h)
    ·exact .inr (.inr (.inl h))
    ·exact .inr (.inr (.inr (.inl h)))
    ·exact .inr (.inr (.inr (.inr (.inl h))))
    ·exact .inr (.inr (.inr (.inr (.inr (.inl h)))))
    ·exact .inr (.inr (.inr (.inr (.inr (.inr ⟨c, (hne c).mp hc, h⟩)))))
   ·exact ⟨D.lk, D.lt, D.kt, fun c hc => D.t c ((hne c).mp hc), fun h0 h1 => D.tt ((hne _).mp h0) ((hne _).mp h1), fun i hi => D.far i (by
     rcases hi with h | h | h | ⟨c, hc, h⟩
     ·exact .inl h
     ·exact .inr (.inl h)
     ·exact .inr (.inr (.inl h))
     ·exact .inr (.inr (.inr ⟨c, (hne c).mp hc, h⟩)))⟩
 ·-- told for the first time
  rw [mD] at hv
  have hb : W'.t b = [] := Classical.byContradiction fun q => by rw [if_neg q] at hv; cases hv
  have ne : H.length ≠ G.tl := Nat.ne_of_gt tlt
  have s₂ : ∀ i, i ≠ G.tl → (putD H₁ G.tl (dput (tabT W' G) (.p (.int (oi b))) (.ref H.length)))[i]? = H₁[i]? := fun i hi => by unfold putD; rw [List.getElem?_set_ne (fun q => hi q.symm)]
  have t₂ := gf (es' := dput (tabT W' G) (.p (.int (oi b))) (.ref H.length)) rp₁.tl
  have l₂ : (putD H₁ G.tl (dput (tabT W' G) (.p (.int (oi b))) (.ref H.length))).length = H₁.length := by unfold putD; rw [List.length_set]
  have g₂ : IsD (putD H₁ G.tl (dput (tabT W' G) (.p (.int (oi b))) (.ref H.length))) H.length ([].map ent) := by obtain ⟨n, e⟩ := g₁; exact ⟨n, by rw [s₂ _ ne]; exact e⟩
  have nt := x₁.tf.free G.tl (.inr (.inr (.inr (.inr (.inr (.inl rfl))))))
  obtain ⟨ntl, etl⟩ := rp₁.tl
  have f₂ : Flow F (putD H₁ G.tl (dput (tabT W' G) (.p (.int (oi b))) (.ref H.length))) A S := x₁.fl.keep (fun i m e ξ q ξ => by
   rw [s₂ i fun w => ?_]
   ·exact e
   ·subst w
    rcases q with q | q | q | q
    ·exact nt q
    ·have := x₁.fl.fl; rw [← q, etl] at this; cases this
    ·have := x₁.fl.su; rw [← q, etl] at this; cases this
    ·have := x₁.fl.sd; rw [← q, etl] at this; cases this) (by obtain ⟨b, e⟩ := x₁.fl.d; exact ⟨b, by rw [s₂ _ fun q => by rw [q, etl] at e; cases e]; exact e⟩)
  generalize putD H₁ G.tl (dput (tabT W' G) (.p (.int (oi b))) (.ref H.length)) = H₂ at s₂ t₂ g₂ f₂ l₂ ⊢
  refine aa <| ad l9 <| ae <| (iV f₂ (k := tdK j) g₂ (Nat.zero_le _) rfl (by simp)).mono fun ξ H' q => ?_
  obtain ⟨q1, q2, q3, q4⟩ := q
  have same : ∀ i, i < H₁.length → ¬ (i = G.tl ∨ i = H.length) → i ≠ F.d → H'[i]? = H₁[i]? := fun i hi hx hd => (q2 i (by rw [l₂]; exact hi) (fun q => hx (.inr q)) hd).trans (s₂ i fun q => hx (.inl q))
  have hXd : ∀ i, (i = G.tl ∨ i = H.length) → ∃ es, IsD H₁ i es := fun i hi => by
   rcases hi with rfl | rfl
   ·exact ⟨_, ntl, etl⟩
   ·exact ⟨_, g₁⟩
  have U := rp₁.upd F.d x₁.tne (fun i => i = G.tl ∨ i = H.length) hXd same
  have lt1 : F.sm < H.length := rp.sm.lt
  have lt2 : G.lv < H.length := rp.lv.lt
  have lt3 : G.kp < H.length := rp.kp.lt
  have lt4 := x.bk.bk.lt
  have lt5 := x.bk.hd.lt
  have lt6 := x.bk.is.lt
  have hln := x.len
  have hne : ∀ c, addT W'.t b j c ≠ [] → c = b ∨ (c ≠ b ∧ W'.t c ≠ []) := fun c q => by
   by_cases hc : c = b
   ·exact .inl hc
   ·rw [jh hc] at q; exact .inr ⟨hc, q⟩
  have tb : ∀ c, c = b → (if c = b then H.length else G.t c) = H.length := fun c h => if_pos h
  have tn : ∀ c, c ≠ b → (if c = b then H.length else G.t c) = G.t c := fun c h => if_neg h
  have fre : ∀ i, i ≥ H.length → ¬ Own F A i := fun i hi => x.fl.new_free hi
  refine hq (fun c => if c = b then H.length else G.t c) H' (x₁.chg (fun i => i = G.tl ∨ i = H.length) (by rw [← l₂]; exact q1) same (fun i hi => ?_) q4 ⟨U.u1 (fun q => ?_), U.u2, U.u3, U.u4 (fun q => ?_), U.u5 (fun q => ?_), ?_, fun c hc => ?_⟩ fun i hi => ?_) ?_
  ·rcases hi with rfl | rfl
   ·exact ⟨ft.1, nt, ft.2.1, ft.2.2.1, ft.2.2.2.1, _, ntl, etl⟩
   ·exact ⟨hln, fre _ (Nat.le_refl _), Nat.ne_of_gt lt4, Nat.ne_of_gt lt5, Nat.ne_of_gt lt6, _, g₁⟩
  ·rcases q with q | q
   ·exact ft.2.2.2.2 q.symm
   ·exact Nat.ne_of_lt lt1 q
  ·rcases q with q | q
   ·exact D.lt q
   ·exact Nat.ne_of_lt lt2 q
  ·rcases q with q | q
   ·exact D.kt q
   ·exact Nat.ne_of_lt lt3 q
  ·rw [← rG hb hord]
   obtain ⟨n, e⟩ := t₂
   have hfd : G.tl ≠ F.d := fun q => nt (.inl q)
   exact ⟨n, by rw [q2 _ (bA e) (fun q => ne q.symm) hfd]; exact e⟩
  ·show IsD H' (if c = b then H.length else G.t c) (((addT W'.t b j c).map tdK).map ent)
   rcases hne c hc with rfl | ⟨hcb, hc'⟩
   ·rw [tb _ rfl, j1, hb]
    exact q3
   ·rw [tn _ hcb, jh hcb]
    have := (rp.t c hc').lt
    exact U.u7 c hc' fun q => q.elim (D.t c hc').2.2 fun q => Nat.ne_of_lt this q
  ·rcases hi with h | h | h | h | h | h | ⟨c, hc, h⟩
   ·exact x₁.tf.free i (.inl h)
   ·exact x₁.tf.free i (.inr (.inl h))
   ·exact x₁.tf.free i (.inr (.inr (.inl h)))
   ·exact x₁.tf.free i (.inr (.inr (.inr (.inl h))))
   ·exact x₁.tf.free i (.inr (.inr (.inr (.inr (.inl h)))))
   ·exact x₁.tf.free i (.inr (.inr (.inr (.inr (.inr (.inl h))))))
   ·have h' : i = if c = b then H.length else G.t c := h
    rcases hne c hc with rfl | ⟨hcb, hc'⟩
    ·rw [tb _ rfl] at h'
     exact fre i (Nat.le_of_eq h'.symm)
    ·rw [tn _ hcb] at h'
     exact x₁.tf.free i (.inr (.inr (.inr (.inr (.inr (.inr ⟨c, hc', h'⟩))))))
  ·refine ⟨D.lk, D.lt, D.kt, fun c hc => ?_, fun h0 h1 => ?_, fun i hi => ?_⟩
   ·show (if c = b then H.length else G.t c) ≠ G.lv ∧ (if c = b then H.length else G.t c) ≠ G.kp ∧ (if c = b then H.length else G.t c) ≠ G.tl
    rcases hne c hc with rfl | ⟨hcb, hc'⟩
    ·rw [tb _ rfl]; exact ⟨Nat.ne_of_gt lt2, Nat.ne_of_gt lt3, ne⟩
    ·rw [tn _ hcb]; exact D.t c hc'
   ·show (if false = b then H.length else G.t false) ≠ (if true = b then H.length else G.t true)
    cases b with
    | false =>
     rcases hne true h1 with q | ⟨_, hc'⟩
     ·cases q
     ·rw [tb _ rfl, tn _ (by decide)]
      exact Nat.ne_of_gt (rp.t true hc').lt
    | true =>
     rcases hne false h0 with q | ⟨_, hc'⟩
     ·cases q
     ·rw [tn false (by decide), tb _ rfl]
      exact Nat.ne_of_lt (rp.t false hc').lt
   ·rcases hi with h | h | h | ⟨c, hc, h⟩
    ·exact D.far i (.inl h)
    ·exact D.far i (.inr (.inl h))
    ·exact D.far i (.inr (.inr (.inl h)))
    ·have h' : i = if c = b then H.length else G.t c := h
     rcases hne c hc with rfl | ⟨hcb, hc'⟩
     ·rw [tb _ rfl] at h'
      rw [h']; exact ⟨hln, Nat.ne_of_gt lt4, Nat.ne_of_gt lt5, Nat.ne_of_gt lt6, Nat.ne_of_gt lt1⟩
     ·rw [tn _ hcb] at h'
      exact D.far i (.inr (.inr (.inr ⟨c, hc', h'⟩)))
end
noncomputable def rl (td bg : Nat) (deed : V) (su fl rows bk : Nat) (y7 y8 y9 y10 y11 y12 : Option V) : Loc := [some (.ref td), some (.ref bg), some deed, some (.ref su), some (.ref fl), some (.ref rows), some (.ref bk), y7, y8, y9, y10, y11, y12, none, none, none, none, none, none, none, none, none, none]
noncomputable def noT : Bool → List (Option Bool) := fun ξ => []
section
variable {F : Fix} {G G' : TFix} {K : BFix} {Gb : TB} {W W' W'' : Told} {r : Bool → Fin 8} {lr n0 bg rows : Nat} {deed : V} {H0 H H' : MH} {A A' : At} {S S' SB SB' : St} {P : V → MH → Prop} {T : Fl × Loc → MH → Prop} {loc : Loc} {y7 y8 y9 y10 y11 y12 : Option V}
theorem mV (x : Ctx F G K Gb W ⟨[], [], noT⟩ r lr n0 H0 H A S SB) (D : TDi G K F.sm n0 noT) (hW : W.Ok)
  (h : ∀ y H', Ctx F G K Gb W ⟨W.leaks, [], noT⟩ r lr n0 H0 H' A S SB → T (.next, rl Gb.td bg deed G.su F.fl rows K.bk y7 y8 y y10 y11 y12) H') :
  Ok (sFor (itV (e2 ah (eLoc 0) (eC (.str "leaks")))) (aT 9) (ai (aL (aw (au 204 "note") ar (eLoc 4) (ac (e1 (aG 54 "leaks") (eLoc 3)) (ac (eLoc 9) (lNil))))) (sNil)) (rl Gb.td bg deed G.su F.fl rows K.bk y7 y8 y9 y10 y11 y12)) H T := by
 refine aS <| x.tb.leaks rfl ⟨rfl, x.tb.lv, ?_⟩
 refine cj (mk := fun y => rl Gb.td bg deed G.su F.fl rows K.bk y7 y8 y y10 y11 y12) (fun ds H' => Ctx F G K Gb W ⟨ds, [], noT⟩ r lr n0 H0 H' A S SB) (fun ξ ξ x => x.tb.lv) (fun ds i rs y H' hd x' => ?_) y9 x h
 have nd := hW.leaks
 have l3 := i5 nd
 rw [hd] at nd l3
 simp only [List.length_append, List.length_cons] at l3
 exact ⟨rl Gb.td bg deed G.su F.fl rows K.bk y7 y8 (some (.int (lo i))) y10 y11 y12, rfl, af <| aq <| x'.fl.callI rfl (fun ξ => rfl) <| aa <| cA <| ad rfl <| bE x'.tf.rep.su x'.tf.rep.sd rfl rfl <| aa <| ad rfl <| ae <| (x'.leak1 D (fun q => (List.nodup_append.mp nd).2.2 i q i (.head _) rfl) (by show ds.length ≤ 900; omega)).mono fun ξ H'' x'' => ⟨rfl, ag ⟨.inl rfl, ⟨_, rfl⟩, x''⟩⟩⟩
theorem nU (x : Ctx F G K Gb W ⟨W.leaks, [], noT⟩ r lr n0 H0 H A S SB) (D : TDi G K F.sm n0 noT) (hW : W.Ok)
  (h : ∀ y H', Ctx F G K Gb W ⟨W.leaks, W.kept, noT⟩ r lr n0 H0 H' A S SB → T (.next, rl Gb.td bg deed G.su F.fl rows K.bk y7 y8 y y10 y11 y12) H') :
  Ok (sFor (itV (e2 ah (eLoc 0) (eC (.str "kept")))) (aT 9) (ai (aL (aw (au 204 "note") ar (eLoc 4) (ac (e1 (aG 54 "kept") (eLoc 3)) (ac (eLoc 9) (lNil))))) (sNil)) (rl Gb.td bg deed G.su F.fl rows K.bk y7 y8 y9 y10 y11 y12)) H T := by
 refine aS <| x.tb.kept rfl ⟨rfl, x.tb.kp, ?_⟩
 refine cj (mk := fun y => rl Gb.td bg deed G.su F.fl rows K.bk y7 y8 y y10 y11 y12) (fun ds H' => Ctx F G K Gb W ⟨W.leaks, ds, noT⟩ r lr n0 H0 H' A S SB) (fun ξ ξ x => x.tb.kp) (fun ds i rs y H' hd x' => ?_) y9 x h
 have nd := hW.kept
 have l3 := mv nd
 rw [hd] at nd l3
 simp only [List.length_append, List.length_cons] at l3
 exact ⟨rl Gb.td bg deed G.su F.fl rows K.bk y7 y8 (some (.tup [.int i.1.int, .int (lo i.2)])) y10 y11 y12, rfl, af <| aq <| x'.fl.callI rfl (fun ξ => rfl) <| aa <| cA <| ad rfl <| bE x'.tf.rep.su x'.tf.rep.sd rfl rfl <| aa <| ad rfl <| ae <| (x'.kept1 D (fun q => (List.nodup_append.mp nd).2.2 i q i (.head _) rfl) (by show ds.length ≤ 900; omega)).mono fun ξ H'' x'' => ⟨rfl, ag ⟨.inl rfl, ⟨_, rfl⟩, x''⟩⟩⟩
inductive TolAt (F : Fix) (G : TFix) (K : BFix) (Gb : TB) (W W' : Told) (b : Bool) (r : Bool → Fin 8) (lr n0 : Nat) (H0 : MH) (A : At) (S SB : St) (ds : List (Option Bool)) (H' : MH) : Prop
 | mk (t' : Bool → Nat) (x : Ctx F { G with t := t' } K Gb W ⟨W'.leaks, W'.kept, fun c => if c = b then ds else W'.t c⟩ r lr n0 H0 H' A S SB) (D : TDi { G with t := t' } K F.sm n0 (fun c => if c = b then ds else W'.t c)) : TolAt F G K Gb W W' b r lr n0 H0 A S SB ds H'
theorem jJ (x : Ctx F G K Gb W W' r lr n0 H0 H A S SB) (D : TDi G K F.sm n0 W'.t) (hW : W.Ok) {b : Bool} (hb : W'.t b = []) (hord : b = false → W'.t true = [])
  (h : ∀ y t' H', Ctx F { G with t := t' } K Gb W ⟨W'.leaks, W'.kept, fun c => if c = b then W.t b else W'.t c⟩ r lr n0 H0 H' A S SB → TDi { G with t := t' } K F.sm n0 (fun c => if c = b then W.t b else W'.t c) → T (.next, rl Gb.td bg deed G.su F.fl rows K.bk y7 y8 y (some (.int (oi b))) y11 y12) H') :
  Ok (sFor (itV (e2 ah (e2 ah (eLoc 0) (eC (.str "told"))) (eLoc 10))) (aT 9) (ai (aL (aw (au 204 "note") ar (eLoc 4) (ac (aw (au 54 "told_by") cC (eLoc 3) (ac (eLoc 10) (lNil))) (ac (eLoc 9) (lNil))))) (sNil)) (rl Gb.td bg deed G.su F.fl rows K.bk y7 y8 y9 (some (.int (oi b))) y11 y12)) H T := by
 refine aS <| ak <| x.tb.told rfl <| ad rfl <| x.tb.place (b := b) ⟨rfl, x.tb.t b, ?_⟩
 have e0 : (fun c => if c = b then [] else W'.t c) = W'.t := funext fun c => by
  by_cases hc : c = b
  ·rw [if_pos hc, hc, hb]
  ·rw [if_neg hc]
 refine cj (mk := fun y => rl Gb.td bg deed G.su F.fl rows K.bk y7 y8 y (some (.int (oi b))) y11 y12) (TolAt F G K Gb W W' b r lr n0 H0 A S SB) (fun ds H' w => ?_) (fun ds j rs y H' hd w => ?_) y9 ⟨G.t, by rw [e0]; exact x, by rw [e0]; exact D⟩ fun y H' w => ?_
 ·obtain ⟨t', x', ξ⟩ := w
  exact x'.tb.t b
 ·obtain ⟨t', x', D'⟩ := w
  have nd := hW.t b
  have l3 := i5 nd
  rw [hd] at nd l3
  simp only [List.length_append, List.length_cons] at l3
  have e1 : addT (fun c => if c = b then ds else W'.t c) b j = fun c => if c = b then ds ++ [j] else W'.t c := funext fun c => by
   by_cases hc : c = b
   ·subst hc; rw [j1]; simp
   ·rw [jh hc]; simp [hc]
  refine ⟨rl Gb.td bg deed G.su F.fl rows K.bk y7 y8 (some (.int (ii j))) (some (.int (oi b))) y11 y12, rfl, af <| aq <| (x'.told1 (b := b) (j := j) D' (by show j ∉ (if b = b then ds else W'.t b); rw [if_pos rfl]; exact fun q => (List.nodup_append.mp nd).2.2 j q j (.head _) rfl) (by show (if b = b then ds else W'.t b).length ≤ 900; rw [if_pos rfl]; omega) (fun q => by show (if true = b then ds else W'.t true) = []; rw [if_neg (by rw [q]; decide)]; exact hord q) rfl rfl rfl rfl fun t'' H'' x'' D'' => ⟨rfl, ag ⟨.inl rfl, ⟨_, rfl⟩, ?_⟩⟩)⟩
  rw [e1] at x'' D''
  exact ⟨t'', x'', D''⟩
 ·obtain ⟨t', x', D'⟩ := w
  exact h y t' H' x' D'
end
noncomputable def Told.size (W : Told) : Int := (W.leaks.length : Int) + (W.kept.length : Int) + ((W.t false).length : Int) + ((W.t true).length : Int)
section
variable {F : Fix} {G G' : TFix} {K : BFix} {Gb : TB} {W W' W'' : Told} {r : Bool → Fin 8} {lr n0 bg rows sm : Nat} {deed : V} {H0 H H' : MH} {A A' : At} {S S' SB SB' : St} {P : V → MH → Prop} {T : Fl × Loc → MH → Prop} {loc : Loc} {y7 y8 y9 y10 y11 y12 : Option V}
theorem q6 {f : EM V} {SP : Src → MH → Prop} (h : Ok (f loc) H fun v H' => ∃ l es n, v = .ref l ∧ H'[l]? = some (.dict es n) ∧ allP es = true ∧ SP (.vals l es n) H') : Ok (pL f loc) H SP := .bnd (h.mono fun v H' q => by
 obtain ⟨l, es, n, rfl, e, ha, q⟩ := q
 refine ⟨_, H', ?_, q⟩
 unfold oj
 simp only [e, ha, if_true])
theorem sumT (W : Told) : ((([false, true] : List Bool).filter fun b => !(W.t b).isEmpty).map fun b => ((W.t b).length : Int)).sum = ((W.t false).length : Int) + ((W.t true).length : Int) := by
 by_cases h0 : W.t false = [] <;> by_cases h1 : W.t true = [] <;> simp [h0, h1]
theorem pj (rp : TRep G sm H W) (hW : W.Ok) {Q : V → MH → Prop} (h : ∀ H', Ext H H' → Q (.int W.size) H') : Ok (dI [.ref G.su]) H Q := by
 have l1 := i5 hW.leaks
 have l2 := mv hW.kept
 have l3 : ∀ b, (W.t b).length ≤ 3 := fun b => i5 (hW.t b)
 have big : ∀ n : Nat, n ≤ 100 → n ≤ lim := fun n hn => Nat.le_trans hn (by decide)
 refine a9 rfl <| aK <| bZ <| ak <| ak <| aC <| aa <| cA <| ad rfl <| bE rp.su rp.sd rfl rfl <| ae <| jY rp.lv (by simp only [List.length_map]; exact big _ (by omega)) ?_
 refine aC <| aa <| cA <| ad rfl <| bE rp.su rp.sd rfl rfl <| ae <| jY rp.kp (by simp only [List.length_map]; exact big _ (by omega)) <| dG ?_
 refine aC <| aa <| dF (α := Bool) (β := Option V) (xs := ([false, true] : List Bool).filter fun b => !(W.t b).isEmpty) (val := fun b => V.ref (G.t b)) (p := fun ξ => true) (em := fun b => V.int ((W.t b).length : Int)) (mk := fun y => [none, y, none]) (y := none) (Nat.le_trans (List.length_filter_le ..) (by decide)) rfl <| q6 <| cA <| ad rfl <| bE rp.su rp.sd rfl rfl ?_
 obtain ⟨n, e⟩ := rp.tl
 refine ⟨_, _, _, rfl, e, jk _ _, ?_, fun H' x => ⟨x.get e, jk _ _⟩, fun b hb y H' x => ⟨some (.ref (G.t b)), rfl, fun B hB => c9 hB, fun ξ P hP => ?_⟩, ?_⟩
 ·show (tabT W G).map (·.2) = _
  unfold tabT
  rw [List.map_map]; rfl
 ·have hne : W.t b ≠ [] := fun q => by
   have := (List.mem_filter.mp hb).2
   rw [q] at this
   cases this
  refine aC <| aa <| ad rfl <| ae <| jY (x.isD (rp.t b hne)) (by simp only [List.length_map]; exact big _ (by have := l3 b; omega)) ?_
  simp only [List.length_map]
  exact hP
 ·rw [List.filter_eq_self.mpr fun ξ ξ => rfl]
  refine ae <| ph aj <| dG <| .inl ⟨_, rfl, ?_⟩
  rw [sumT]
  have e : W.size = (((W.leaks.map loK).map ent).length : Int) + (((W.kept.map kpK).map ent).length : Int) + (((W.t false).length : Int) + ((W.t true).length : Int)) := by
   simp only [Told.size, List.length_map]; omega
  rw [← e]
  exact h _ .app
theorem ok_many (x : TBook K Gb H W) (hW : W.Ok) {i : Nat} (hi : loc[i]? = some (some (.ref Gb.td))) (h : P (.int W.size) H) :
  Ok (e2 mAdd (e2 mAdd (e2 mAdd (eL mLen (ac (e2 ah (eLoc i) (eC (.str "leaks"))) (lNil))) (eL mLen (ac (e2 ah (eLoc i) (eC (.str "kept"))) (lNil)))) (eL mLen (ac (e2 ah (e2 ah (eLoc i) (eC (.str "told"))) (eC (.int 0))) (lNil)))) (eL mLen (ac (e2 ah (e2 ah (eLoc i) (eC (.str "told"))) (eC (.int 1))) (lNil))) loc) H P := by
 have l1 := i5 hW.leaks
 have l2 := mv hW.kept
 have l3 : ∀ b, (W.t b).length ≤ 3 := fun b => i5 (hW.t b)
 have l30 := l3 false
 have l31 := l3 true
 have big : ∀ n : Nat, n ≤ 100 → n ≤ lim := fun n hn => Nat.le_trans hn (by decide)
 refine ak <| ak <| ak <| aC <| aa <| x.leaks hi <| ae <| cU x.lv (by simp only [List.length_map]; exact big _ (by omega)) ?_
 refine aC <| aa <| x.kept hi <| ae <| cU x.kp (by simp only [List.length_map]; exact big _ (by omega)) <| dG ?_
 refine aC <| aa <| ak <| x.told hi <| ok_C <| x.place (b := false) <| ae <| cU (x.t false) (by simp only [List.length_map]; exact big _ (by omega)) <| dG ?_
 refine aC <| aa <| ak <| x.told hi <| ok_C <| x.place (b := true) <| ae <| cU (x.t true) (by simp only [List.length_map]; exact big _ (by omega)) <| dG ?_
 simp only [List.length_map]
 exact h
end
noncomputable def sumL (n : Nat) : MH := [.ns [("leaks", .ref (n + 2)), ("kept", .ref (n + 3)), ("told", .ref (n + 4))], .inst 54 (n + 0), .dict [] 0, .dict [] 0, .dict [] 0]
noncomputable def rowsV (n : Nat) : List V := [.tup [.int 0, .ref (n + 27)], .tup [.int 1, .ref (n + 28)], .tup [.int 2, .ref (n + 29)], .tup [.int 3, .ref (n + 31)]]
noncomputable def tailV (n : Nat) (g : Fin 4 → Nat) : List V := [.tup [.int 4, .ref (g 0)], .tup [.int 5, .ref (g 1)], .tup [.int 6, .ref (n + 33)], .tup [.int 7, .ref (n + 34)]]
noncomputable def bookE (n : Nat) : List (Key × V) := [(.p (.str "held"), .ref (n + 37)), (.p (.str "gone"), .ref (n + 38)), (.p (.str "leaks"), .ref (n + 39)), (.p (.str "kept"), .ref (n + 40)), (.p (.str "inside"), .ref (n + 41))]
noncomputable def heldE (n : Nat) (g : Fin 4 → Nat) : List (Key × V) := [(.p (.int 0), .ref (n + 27)), (.p (.int 1), .ref (n + 28)), (.p (.int 2), .ref (n + 29)), (.p (.int 3), .ref (n + 31)), (.p (.int 4), .ref (g 0)), (.p (.int 5), .ref (g 1)), (.p (.int 6), .ref (n + 33)), (.p (.int 7), .ref (n + 34))]
noncomputable def insE (n : Nat) (g : Fin 4 → Nat) : List (Key × V) := [(.p (.str "a"), .ref (g 2)), (.p (.str "b"), .ref (g 3)), (.p (.str "c"), .ref (n + 42)), (.p (.str "d"), .ref (n + 43))]
noncomputable def endL (n : Nat) (g : Fin 4 → Nat) : MH := [.list [(Tk.out false).v], .list [(Tk.out true).v], .list [(Tk.site .a).v], .list (rowsV n), .list [(Tk.site .b).v], .dict (bookE n) 5, .list [], .list [], .list (tailV n g), .list (rowsV n ++ tailV n g), .dict (heldE n g) 0, .list [], .list [], .list [], .dict (insE n g) 4, .list [], .list []]
noncomputable def setL (n : Nat) (g : Fin 4 → Nat) : MH := sumL n ++ (f0 (n + 5) (n + 1) ++ endL n g)
noncomputable def kOf (n : Nat) (g : Fin 4 → Nat) : BFix := { bk := n + 32, hd := n + 37, is := n + 41, at_ := fun c => match c with
 | .held r => (match r.val with
  | 0 => n + 27
  | 1 => n + 28
  | 2 => n + 29
  | 3 => n + 31
  | 4 => g 0
  | 5 => g 1
  | 6 => n + 33
  | _ => n + 34)
 | .ins .a => g 2
 | .ins .b => g 3
 | .ins .c => n + 42
 | .ins .d => n + 43
 | .gone => n + 38
 | .leaks => n + 39
 | .kept => n + 40 }
noncomputable def invG : Fin 4 → Cont := fun j => match j.val with
 | 0 => .held 4
 | 1 => .held 5
 | 2 => .ins .a
 | _ => .ins .b
noncomputable def invN : Nat → Cont
 | 27 => .held 0
 | 28 => .held 1
 | 29 => .held 2
 | 31 => .held 3
 | 33 => .held 6
 | 34 => .held 7
 | 42 => .ins .c
 | 43 => .ins .d
 | 39 => .leaks
 | 40 => .kept
 | _ => .gone
theorem fin4 {P : Fin 4 → Prop} (h0 : P 0) (h1 : P 1) (h2 : P 2) (h3 : P 3) : ∀ r, P r := Fin.cases h0 (Fin.cases h1 (Fin.cases h2 (Fin.cases h3 fun i => i.elim0)))
theorem fin8 {P : Fin 8 → Prop} (h0 : P 0) (h1 : P 1) (h2 : P 2) (h3 : P 3) (h4 : P 4) (h5 : P 5) (h6 : P 6) (h7 : P 7) : ∀ r, P r := Fin.cases h0 (Fin.cases h1 (Fin.cases h2 (Fin.cases h3 (Fin.cases h4 (Fin.cases h5 (Fin.cases h6 (Fin.cases h7 fun i => i.elim0)))))))
theorem pJ (n : Nat) (g : Fin 4 → Nat) (c : Cont) : (∃ j, (kOf n g).at_ c = g j ∧ c = invG j) ∨ ∃ k, (kOf n g).at_ c = n + k ∧ c = invN k := by
 cases c with
 | held r =>
  revert r
  exact fin8 (.inr ⟨27, rfl, rfl⟩) (.inr ⟨28, rfl, rfl⟩) (.inr ⟨29, rfl, rfl⟩) (.inr ⟨31, rfl, rfl⟩) (.inl ⟨0, rfl, rfl⟩) (.inl ⟨1, rfl, rfl⟩) (.inr ⟨33, rfl, rfl⟩) (.inr ⟨34, rfl, rfl⟩)
 | ins s =>
  cases s
  ·exact .inl ⟨2, rfl, rfl⟩
  ·exact .inl ⟨3, rfl, rfl⟩
  ·exact .inr ⟨42, rfl, rfl⟩
  ·exact .inr ⟨43, rfl, rfl⟩
 | gone => exact .inr ⟨38, rfl, rfl⟩
 | leaks => exact .inr ⟨39, rfl, rfl⟩
 | kept => exact .inr ⟨40, rfl, rfl⟩
noncomputable def qr (b : Fin 4 → List Tk) (r : Fin 8) : List Tk := match r.val with
 | 0 => [.out false]
 | 1 => [.out true]
 | 2 => [.site .a]
 | 3 => [.site .b]
 | 4 => b 0
 | 5 => b 1
 | _ => []
noncomputable def insL (b : Fin 4 → List Tk) : Site → List Tk
 | .a => b 2
 | .b => b 3
 | .c => []
 | .d => []
noncomputable def S0 (b : Fin 4 → List Tk) : St := fun f => match f with
 | .held r t => t ∈ qr b r
 | .ins s t => t ∈ insL b s
 | _ => False
structure Inp (H : MH) (Gb : TB) (W : Told) (bg : Nat) (g : Fin 4 → Nat) (b : Fin 4 → List Tk) (r : Bool → Fin 8) (lr : Nat) : Prop where
 td : IsD H Gb.td [(.p (.str "leaks"), .ref Gb.lv), (.p (.str "kept"), .ref Gb.kp), (.p (.str "told"), .ref Gb.tl)]
 lv : H[Gb.lv]? = some (.list (W.leaks.map fun i => V.int (lo i)))
 kp : H[Gb.kp]? = some (.list (W.kept.map fun p => V.tup [.int p.1.int, .int (lo p.2)]))
 tl : H[Gb.tl]? = some (.list [.ref (Gb.t false), .ref (Gb.t true)])
 t : ∀ b, H[Gb.t b]? = some (.list ((W.t b).map fun j => V.int (ii j)))
 bg : H[bg]? = some (.list [.ref (g 0), .ref (g 1), .ref (g 2), .ref (g 3)])
 gs : ∀ j, H[g j]? = some (.list ((b j).map Tk.v))
 nd : ∀ j, (b j).Nodup
 hr : H[lr]? = some (.list (opB r))
 inj : ∀ i j, g i = g j → i = j
 far : ∀ j, g j ≠ Gb.lv ∧ g j ≠ Gb.kp ∧ g j ≠ Gb.tl ∧ (∀ b, g j ≠ Gb.t b) ∧ g j ≠ lr
section
variable {H : MH} {Gb : TB} {W : Told} {bg : Nat} {g : Fin 4 → Nat} {b : Fin 4 → List Tk} {r : Bool → Fin 8} {lr : Nat}
theorem Inp.free (x : Inp H Gb W bg g b r lr) {i : Nat} (hi : i < H.length) (hg : ∀ j, i ≠ g j) : Free (kOf H.length g) i := fun c q => by
 rcases pJ H.length g c with ⟨j, e, _⟩ | ⟨k, e, _⟩
 ·exact hg j (q.trans e)
 ·have := q.trans e; omega
theorem n8 (x : Inp H Gb W bg g b r lr) (q : Fin 8) : (qr b q).Nodup := by
 revert q
 exact fin8 (List.nodup_cons.mpr ⟨by simp, .nil⟩) (List.nodup_cons.mpr ⟨by simp, .nil⟩) (List.nodup_cons.mpr ⟨by simp, .nil⟩) (List.nodup_cons.mpr ⟨by simp, .nil⟩) (x.nd 0) (x.nd 1) .nil .nil
theorem map_fv {f : Tk → Fact} (h : ∀ t, (f t).key = t.key) (l : List Tk) : (l.map f).map fv = l.map Tk.v := by
 rw [List.map_map]
 exact List.map_congr_left fun t ξ => by show V.ofKey (f t).key = t.v; rw [h, Tk.of_key]
theorem Inp.book (x : Inp H Gb W bg g b r lr) : Book (kOf H.length g) (H ++ setL H.length g) (S0 b) := by
 have gl : ∀ j, g j < H.length := fun j => bA (x.gs j)
 have gx : ∀ j, (H ++ setL H.length g)[g j]? = some (.list ((b j).map Tk.v)) := fun j => bu (x.gs j)
 have hh : ∀ q : Fin 8, (H ++ setL H.length g)[(kOf H.length g).at_ (.held q)]? = some (.list ((qr b q).map Tk.v)) := by
  exact fin8 (get_app (k := 27).trans rfl) (get_app (k := 28).trans rfl) (get_app (k := 29).trans rfl) (get_app (k := 31).trans rfl) (gx 0) (gx 1) (get_app (k := 33).trans rfl) (get_app (k := 34).trans rfl)
 have hi : ∀ s : Site, (H ++ setL H.length g)[(kOf H.length g).at_ (.ins s)]? = some (.list ((insL b s).map Tk.v)) := fun s => by
  cases s
  ·exact gx 2
  ·exact gx 3
  ·exact get_app (k := 42).trans rfl
  ·exact get_app (k := 43).trans rfl
 refine { bk := ⟨5, get_app (k := 32).trans rfl⟩, hd := ⟨0, get_app (k := 37).trans rfl⟩, is := ⟨4, get_app (k := 41).trans rfl⟩, set := fun c => ?_, inj := fun c c' e => ?_ }
 ·cases c with
  | held q =>
   refine ⟨(qr b q).map (.held q), by rw [hh q, map_fv fun ξ => rfl], dA (fun ξ ξ e => by cases e; rfl) (n8 x q), fun f => ?_⟩
   rw [List.mem_map]
   constructor
   ·rintro ⟨t, ht, rfl⟩; exact ⟨ht, rfl⟩
   ·rintro ⟨h, hc⟩
    cases f with
    | held q' t => cases hc; exact ⟨t, h, rfl⟩
    | _ => cases hc
  | ins s =>
   refine ⟨(insL b s).map (.ins s), by rw [hi s, map_fv fun ξ => rfl], dA (fun ξ ξ e => by cases e; rfl) (by cases s; exact x.nd 2; exact x.nd 3; exact .nil; exact .nil), fun f => ?_⟩
   rw [List.mem_map]
   constructor
   ·rintro ⟨t, ht, rfl⟩; exact ⟨ht, rfl⟩
   ·rintro ⟨h, hc⟩
    cases f with
    | ins q' t => cases hc; exact ⟨t, h, rfl⟩
    | _ => cases hc
  | gone => exact ⟨[], get_app (k := 38).trans rfl, .nil, fun f => ⟨fun h => (by cases h), fun h => by obtain ⟨h, hc⟩ := h; cases f <;> first | exact h.elim | cases hc⟩⟩
  | leaks => exact ⟨[], get_app (k := 39).trans rfl, .nil, fun f => ⟨fun h => (by cases h), fun h => by obtain ⟨h, hc⟩ := h; cases f <;> first | exact h.elim | cases hc⟩⟩
  | kept => exact ⟨[], get_app (k := 40).trans rfl, .nil, fun f => ⟨fun h => (by cases h), fun h => by obtain ⟨h, hc⟩ := h; cases f <;> first | exact h.elim | cases hc⟩⟩
 ·rcases pJ H.length g c with ⟨j, e1, rfl⟩ | ⟨k, e1, rfl⟩ <;> rcases pJ H.length g c' with ⟨j', e2, rfl⟩ | ⟨k', e2, rfl⟩ <;> rw [e1, e2] at e
  ·rw [x.inj _ _ e]
  ·have := gl j; omega
  ·have := gl j'; omega
  ·rw [show k = k' by omega]
end
noncomputable def gOf (n : Nat) : TFix := { su := n + 1, sd := n + 0, lv := n + 2, kp := n + 3, tl := n + 4, t := fun ξ => 0 }
section
variable {H L : MH} {Gb : TB} {W : Told} {bg : Nat} {g : Fin 4 → Nat} {b : Fin 4 → List Tk} {r : Bool → Fin 8} {lr : Nat} {P : V → MH → Prop} {T : Fl × Loc → MH → Prop} {loc : Loc}
theorem nM {m i : Nat} (h : Own (ik m) (atOf m) i) : i = m + 9 ∨ i = m + 11 ∨ i = m + 12 ∨ i = m + 20 ∨ i = m + 21 ∨ i = m + 14 ∨ i = m + 17 ∨ i = m + 18 := by
 rcases h with h | ⟨p, h⟩ | ⟨c, hc, h⟩
 ·exact .inl h
 ·cases p
  ·exact .inr (.inl h)
  ·exact .inr (.inr (.inl h))
 ·rcases gY hc with rfl | rfl | rfl | rfl | rfl
  ·exact .inr (.inr (.inr (.inl h)))
  ·exact .inr (.inr (.inr (.inr (.inl h))))
  ·exact .inr (.inr (.inr (.inr (.inr (.inl h)))))
  ·exact .inr (.inr (.inr (.inr (.inr (.inr (.inl h))))))
  ·exact .inr (.inr (.inr (.inr (.inr (.inr (.inr h))))))
theorem iH {n k j : Nat} (h : Nat.beq k j = false) : n + k ≠ n + j := fun e => absurd (Nat.add_left_cancel e) (Nat.ne_of_beq_eq_false h)
theorem own_k {n k : Nat} (h : Own (ik (n + 5)) (atOf (n + 5)) (n + k)) : [14, 16, 17, 25, 26, 19, 22, 23].contains k = true := by
 rcases nM h with e | e | e | e | e | e | e | e <;> (cases Nat.add_left_cancel (e.trans (Nat.add_assoc n 5 _)); rfl)
theorem own_ge {n i : Nat} (h : Own (ik (n + 5)) (atOf (n + 5)) i) : n ≤ i := by
 rcases nM h with e | e | e | e | e | e | e | e <;> exact e ▸ Nat.le_trans (Nat.le_add_right n 5) (Nat.le_add_right _ _)
theorem gM {n a b c : Nat} (h : b < a) : n + (a + c) ≠ n + b := fun e => Nat.ne_of_gt (Nat.lt_of_lt_of_le h (Nat.le_add_right a c)) (Nat.add_left_cancel e)
theorem eP {n i k : Nat} (h : Own (ik (n + 5)) (atOf (n + 5)) i) (e : i = n + k) (d : [14, 16, 17, 25, 26, 19, 22, 23].contains k = false) : False := by
 subst e; rw [own_k h] at d; cases d
theorem Inp.ctx (x : Inp H Gb W bg g b r lr) : Ctx (ik (H.length + 5)) (gOf H.length) (kOf H.length g) Gb W ⟨[], [], noT⟩ r lr H.length H (H ++ setL H.length g) (atOf (H.length + 5)) SI (S0 b) := by
 have e5 : (H ++ sumL H.length).length = H.length + 5 := by rw [List.length_append]; rfl
 have fl : Flow (ik (H.length + 5)) (H ++ setL H.length g) (atOf (H.length + 5)) SI := by
  have := rE (H := H ++ sumL H.length) (su := H.length + 1)
  rw [e5] at this
  have := this.ext (Ext.app (t := endL H.length g))
  rw [List.append_assoc, List.append_assoc] at this
  exact this
 have ftd : Free (kOf H.length g) Gb.td := x.free x.td.lt fun j q => by
  obtain ⟨n, e⟩ := x.td
  have := x.gs j
  rw [← q, e] at this
  cases this
 exact {
  fl := fl
  tf := ⟨{ sm := ⟨1, get_app (k := 13).trans rfl⟩, su := get_app (k := 1).trans rfl, sd := get_app (k := 0).trans rfl, lv := ⟨0, get_app (k := 2).trans rfl⟩, kp := ⟨0, get_app (k := 3).trans rfl⟩, tl := ⟨0, get_app (k := 4).trans rfl⟩, t := fun b hb => absurd rfl hb }, fun i hi ho => by
   rcases hi with h | h | h | h | h | h | ⟨c, hc, h⟩
   ·exact eP (k := 13) ho h rfl
   ·exact eP (k := 1) ho h rfl
   ·exact eP (k := 0) ho h rfl
   ·exact eP (k := 2) ho h rfl
   ·exact eP (k := 3) ho h rfl
   ·exact eP (k := 4) ho h rfl
   ·exact absurd rfl hc⟩
  bk := x.book
  tb := { td := by obtain ⟨n, e⟩ := x.td; exact ⟨n, bu e⟩, lv := bu x.lv, kp := bu x.kp, tl := bu x.tl, t := fun c => bu (x.t c), flv := x.free (bA x.lv) fun j => (x.far j).1.symm, fkp := x.free (bA x.kp) fun j => (x.far j).2.1.symm, ftl := x.free (bA x.tl) fun j => (x.far j).2.2.1.symm, ft := fun c => x.free (bA (x.t c)) fun j => ((x.far j).2.2.2.1 c).symm, ftd := ftd }
  hr := bu x.hr
  fr := x.free (bA x.hr) fun j => (x.far j).2.2.2.2.symm
  td := x.td.lt
  own := fun i hi ho => by
   rcases hi with h | h | h | h
   ·exact absurd (own_ge ho) (Nat.not_le.mpr h)
   ·exact eP (k := 32) ho h rfl
   ·exact eP (k := 37) ho h rfl
   ·exact eP (k := 41) ho h rfl
  old := fun i hi ξ => List.getElem?_append_left hi
  len := by rw [List.length_append]; omega }
theorem Inp.tdi : TDi (gOf H.length) (kOf H.length g) (ik (H.length + 5)).sm H.length noT := by
 refine ⟨iH rfl, iH rfl, iH rfl, fun b hb => absurd rfl hb, fun hb => absurd rfl hb, fun i hi => ?_⟩
 have k : ∀ k, Nat.beq k 32 = false → Nat.beq k 37 = false → Nat.beq k 41 = false → Nat.beq k 13 = false → H.length ≤ H.length + k ∧ H.length + k ≠ H.length + 32 ∧ H.length + k ≠ H.length + 37 ∧ H.length + k ≠ H.length + 41 ∧ H.length + k ≠ H.length + 5 + 8 := fun k h1 h2 h3 h4 => ⟨Nat.le_add_right _ _, iH h1, iH h2, iH h3, iH h4⟩
 rcases hi with rfl | rfl | rfl | ⟨b, hb, _⟩
 ·exact k 2 rfl rfl rfl rfl
 ·exact k 3 rfl rfl rfl rfl
 ·exact k 4 rfl rfl rfl rfl
 ·exact absurd rfl hb
theorem n6 {su : Nat} (h : P (.ref (H.length + (L.length + 10))) (H ++ (L ++ f0 (H.length + L.length) su))) : Ok (ff [.ref su]) (H ++ L) P := by
 refine po ?_
 rw [List.length_append, List.append_assoc, Nat.add_assoc]
 exact h
theorem pC {k : Nat} {xs : List V} {v : V} (e : L[k]? = some (.list xs)) (hl : Nat.ble (xs.length + 1) 1000 = true) (h : P .none (H ++ L.set k (.list (xs ++ [v])))) : Ok (eS [.ref (H.length + k), v]) (H ++ L) P :=
 lZ (by rw [get_app]; exact e) (Nat.lt_of_lt_of_le (Nat.lt_succ_self _) (Nat.le_trans (Nat.le_of_ble_eq_true hl) (by decide))) (by rw [g7]; exact h)
theorem n7 {k m : Nat} {xs ys : List V} (e : L[k]? = some (.list xs)) (e' : L[m]? = some (.list ys)) (hl : Nat.ble (xs.length + ys.length) 1000 = true) (h : P (.ref (H.length + L.length)) (H ++ (L ++ [.list (xs ++ ys)]))) : Ok (mAdd (.ref (H.length + k)) (.ref (H.length + m))) (H ++ L) P :=
 fA (by rw [get_app]; exact e) (by rw [get_app]; exact e') (Nat.le_trans (Nat.le_of_ble_eq_true hl) (by decide)) (by rw [List.length_append, List.append_assoc]; exact h)
theorem pB {k : Nat} {xs : List V} {es : List (Key × V)} (e : L[k]? = some (.list xs)) (hl : Nat.ble xs.length 1000 = true) (hp : e8 [] xs = some es) (h : P (.ref (H.length + L.length)) (H ++ (L ++ [.dict es 0]))) : Ok (gn [.ref (H.length + k)]) (H ++ L) P := by
 refine ⟨_, _, ?_, h⟩
 have e' : (H ++ L)[H.length + k]? = some (.list xs) := by rw [get_app]; exact e
 unfold gn
 simp only [e', Nat.le_of_ble_eq_true hl, if_true, hp, List.length_append, List.append_assoc]
theorem q9 {k : Nat} {xs : List V} (e : L[k]? = some (.list xs)) (h : P (.ref (H.length + k)) (H ++ L)) : Ok (im (.ref (H.length + k))) (H ++ L) P := gH (by rw [get_app]; exact e) h
theorem ok_rows {rest : SM} {deed : V} {td : Nat} (hb : H[bg]? = some (.list [.ref (g 0), .ref (g 1), .ref (g 2), .ref (g 3)]))
  (h : Ok (rest (rl td bg deed (H.length + 1) (H.length + 15) (H.length + 30) (H.length + 32) none none none none none none)) (H ++ setL H.length g) T) :
  Ok (ai (sSet 3 (eL (gu 54 ce) (lNil)))
 (ai (fN (ip 4 5) (av (ac (eL ff (ac (eLoc 3) (lNil))) (ac (am (ac (av (ac (eC (.int 0)) (ac (am (ac (av (ac (eC (.str "outer")) (ac (eC (.int 0)) (lNil)))) (lNil))) (lNil)))) (ac (av (ac (eC (.int 1)) (ac (am (ac (av (ac (eC (.str "outer")) (ac (eC (.int 1)) (lNil)))) (lNil))) (lNil)))) (ac (av (ac (eC (.int 2)) (ac (am (ac (av (ac (eC (.str "site")) (ac (eC (.str "a")) (lNil)))) (lNil))) (lNil)))) (lNil))))) (lNil)))))
 (ai (aL (aw im eS (eLoc 5) (ac (av (ac (eC (.int 3)) (ac (am (ac (av (ac (eC (.str "site")) (ac (eC (.str "b")) (lNil)))) (lNil))) (lNil)))) (lNil))))
 (ai (sSet 6 (cP (bd (eC (.str "held")) (eL gn (ac (e2 mAdd (eLoc 5) (am (ac (av (ac (eC (.int 4)) (ac (e2 ah (eLoc 1) (eC (.int 0))) (lNil)))) (ac (av (ac (eC (.int 5)) (ac (e2 ah (eLoc 1) (eC (.int 1))) (lNil)))) (ac (av (ac (eC (.int 6)) (ac (am (lNil)) (lNil)))) (ac (av (ac (eC (.int 7)) (ac (am (lNil)) (lNil)))) (lNil))))))) (lNil))) (bd (eC (.str "gone")) (am (lNil)) (bd (eC (.str "leaks")) (am (lNil)) (bd (eC (.str "kept")) (am (lNil)) (dK)))))))
 (ai (bI (eLoc 6) (eC (.str "inside")) (cP (bd (eC (.str "a")) (e2 ah (eLoc 1) (eC (.int 2))) (bd (eC (.str "b")) (e2 ah (eLoc 1) (eC (.int 3))) (bd (eC (.str "c")) (am (lNil)) (bd (eC (.str "d")) (am (lNil)) (dK))))))) rest))))
   [some (.ref td), some (.ref bg), some deed, none, none, none, none, none, none, none, none, none, none, none, none, none, none, none, none, none, none, none, none]) H T := by
 have item : ∀ (i : Nat) (v : V) (L : MH) (Q : V → MH → Prop) (loc : Loc), i < 4 → [V.ref (g 0), .ref (g 1), .ref (g 2), .ref (g 3)][i]? = some v → loc[1]? = some (some (.ref bg)) → Q v (H ++ L) → Ok (e2 ah (eLoc 1) (eC (.int ((i : Nat) : Int))) loc) (H ++ L) Q := fun i v L Q loc hi hv hl q => ak <| ad hl <| ok_C <| b7 (bu hb) (by omega) hv q
 have two : ∀ (a c : V) (L : MH) (Q : V → MH → Prop) (loc : Loc), Q (.tup [a, c]) (H ++ L) → Ok (av (ac (eC a) (ac (eC c) (lNil))) loc) (H ++ L) Q := fun a c L Q loc q => aB <| aa <| ok_C <| aa <| ok_C <| ae ⟨lim2, q⟩
 refine af <| aO <| aC <| ae <| kB ⟨rfl, ?_⟩
 show Ok _ (H ++ sumL H.length) _
 refine af <| en <| aB <| aa <| aC <| aa <| ad rfl <| ae <| n6 ?_
 show Ok _ (H ++ (sumL H.length ++ f0 (H.length + 5) (H.length + 1))) _
 refine aa <| aE <| aa <| aB <| aa <| ok_C <| aa <| aE <| aa <| two _ _ _ _ _ <| ae ⟨_, rfl, rfl, ae ⟨lim2, ?_⟩⟩
 refine aa <| aB <| aa <| ok_C <| aa <| aE <| aa <| two _ _ _ _ _ <| ae ⟨_, rfl, rfl, ae ⟨lim2, ?_⟩⟩
 refine aa <| aB <| aa <| ok_C <| aa <| aE <| aa <| two _ _ _ _ _ <| ae ⟨_, rfl, rfl, ae ⟨lim2, ae ⟨_, rfl, rfl, ae ⟨lim2, _, rfl, rfl, ?_⟩⟩⟩⟩
 show Ok _ (H ++ (sumL H.length ++ (f0 (H.length + 5) (H.length + 1) ++ ((endL H.length g).take 3 ++ [.list ((rowsV H.length).take 3)])))) _
 refine af <| aq <| bn <| ad rfl <| q9 (k := 30) rfl <| aa <| aB <| aa <| ok_C <| aa <| aE <| aa <| two _ _ _ _ _ <| ae ⟨_, rfl, rfl, ae ⟨lim2, ae <| pC (k := 30) rfl rfl ⟨rfl, ?_⟩⟩⟩
 show Ok _ (H ++ (sumL H.length ++ (f0 (H.length + 5) (H.length + 1) ++ (endL H.length g).take 5))) _
 refine af <| aO <| dS <| bl <| ok_C <| aC <| aa <| ak <| ad rfl <| aE <| aa <| aB <| aa <| ok_C <| aa <| item 0 _ _ _ _ (by decide) rfl rfl <| ae ⟨lim2, ?_⟩
 refine aa <| aB <| aa <| ok_C <| aa <| item 1 _ _ _ _ (by decide) rfl rfl <| ae ⟨lim2, ?_⟩
 refine aa <| aB <| aa <| ok_C <| aa <| aE <| ae ⟨_, rfl, rfl, ae ⟨lim2, ?_⟩⟩
 refine aa <| aB <| aa <| ok_C <| aa <| aE <| ae ⟨_, rfl, rfl, ae ⟨lim2, ae ⟨_, rfl, rfl, ?_⟩⟩⟩
 refine n7 (k := 30) (m := 35) rfl rfl rfl <| ae <| pB (k := 36) (es := heldE H.length g) rfl rfl rfl ?_
 refine bl <| ok_C <| aE <| ae ⟨_, rfl, rfl, bl <| ok_C <| aE <| ae ⟨_, rfl, rfl, bl <| ok_C <| aE <| ae ⟨_, rfl, rfl, dw ⟨_, rfl, rfl, _, _, rfl, rfl, ?_⟩⟩⟩⟩
 show Ok _ (H ++ (sumL H.length ++ (f0 (H.length + 5) (H.length + 1) ++ ((endL H.length g).take 14).set 5 (.dict ((bookE H.length).take 4) 4)))) _
 refine af <| bi <| dS <| bl <| ok_C <| item 2 _ _ _ _ (by decide) rfl rfl <| bl <| ok_C <| item 3 _ _ _ _ (by decide) rfl rfl <| bl <| ok_C <| aE <| ae ⟨_, rfl, rfl, bl <| ok_C <| aE <| ae ⟨_, rfl, rfl, dw ⟨_, rfl, rfl, _, _, rfl, ?_⟩⟩⟩
 refine ad rfl <| ok_C <| eQ (l := 32) rfl rfl rfl rfl ⟨rfl, ?_⟩
 exact h
end
section
variable {F : Fix} {G G' : TFix} {K : BFix} {Gb : TB} {W W' W'' : Told} {r : Bool → Fin 8} {lr n0 bg rows sm : Nat} {deed : V} {H0 H H' : MH} {A A' : At} {S S' SB SB' : St} {P : V → MH → Prop} {T : Fl × Loc → MH → Prop} {loc : Loc} {y7 y8 y9 y10 y11 y12 : Option V}
noncomputable def srt (fs : List Fact) : MObj := .list ((bG (fs.map Fact.key)).map .ofKey)
structure Tie (c : Cont) (S : St) (fs : List Fact) : Prop where
 nd : fs.Nodup
 mem : ∀ f, f ∈ fs ↔ S f ∧ f.cont = c
theorem Tie.ct {c : Cont} {fs : List Fact} (t : Tie c S fs) : ∀ f ∈ fs, f.cont = c := fun f h => ((t.mem f).mp h).2
theorem Tie.same {c : Cont} {fs gs : List Fact} (t : Tie c S fs) (u : Tie c S gs) : srt fs = srt gs := by
 unfold srt
 rw [qG t.nd u.nd t.ct fun f => (t.mem f).trans (u.mem f).symm]
theorem hF {c : Cont} {fs : List Fact} (t : Tie c S fs) {l : Nat} (e : H[l]? = some (.list (fs.map fv))) (h : P (.ref H.length) (H ++ [srt fs])) : Ok (aV [.ref l]) H P := by
 rw [i9] at e
 exact pi e (cJ fun k hk => by obtain ⟨f, ξ, rfl⟩ := List.mem_map.mp hk; exact f.key_ok) (lP t.nd t.ct) h
theorem jV {c : Cont} {fs : List Fact} (t : Tie c S fs) {l : Nat} (e : IsD H l ((fs.map Fact.key).map ent)) (h : P (.ref H.length) (H ++ [srt fs])) : Ok (aV [.ref l]) H P :=
 gj e (lP t.nd t.ct) h
theorem iW {neg : Bool} {fs : List Fact} {l m : Nat} (e : H[l]? = some (srt fs)) (e' : H[m]? = some (srt fs)) (h : P (.bool (!neg)) H) : Ok (mEqB neg (.ref l) (.ref m)) H P := by
 have kk : bz ((bG (fs.map Fact.key)).map .ofKey) = some (bG (fs.map Fact.key)) := cJ fun k hk => by
  obtain ⟨f, ξ, rfl⟩ := List.mem_map.mp (mem_sortK.mp hk); exact f.key_ok
 exact ok_eqL e e' kk kk (by rw [decide_eq_true rfl]; cases neg <;> exact h)
theorem Flow.tie (R : Flow F H A S) {c : Cont} (hc : c.tab = none) : ∃ fs, Tie c S fs ∧ IsD H (A.loc F c) ((fs.map Fact.key).map ent) := by
 obtain ⟨fs, h1, h2, h3⟩ := R.set c (by unfold At.has; rw [hc]; trivial)
 exact ⟨fs, ⟨h2, h3⟩, h1⟩
theorem Book.tie (R : Book K H S) (c : Cont) : ∃ fs, Tie c S fs ∧ H[K.at_ c]? = some (.list (fs.map fv)) := by
 obtain ⟨fs, h1, h2, h3⟩ := R.set c
 exact ⟨fs, ⟨h2, h3⟩, h1⟩
theorem tie_tk {c : Cont} {p : Bool} (hc : c.tab = some p) {ts : List Tk} (nd : ts.Nodup) (h : ∀ t, t ∈ ts ↔ S (c.of t)) : Tie c S (ts.map c.of) := by
 refine ⟨dA (fun a b e => ?_) nd, fun f => ?_⟩
 ·cases c <;> first | (cases e; rfl) | cases hc
 ·rw [List.mem_map]
  constructor
  ·rintro ⟨t, ht, rfl⟩; exact ⟨(h t).mp ht, Cont.of_cont hc t⟩
  ·rintro ⟨hs, hf⟩
   subst hf
   cases f with
   | held r t => exact ⟨t, (h t).mpr hs, rfl⟩
   | ins r t => exact ⟨t, (h t).mpr hs, rfl⟩
   | _ => cases hc
theorem Book.site (R : Book K H S) {s : Site} (h : P (.ref (K.at_ (.ins s))) H) : Ok (ah (.ref K.is) (.str s.str)) H P := by
 have ap : allP (([.a, .b, .c, .d] : List Site).map fun s => (Key.p (Cont.ins s).nm, V.ref (K.at_ (.ins s)))) = true := by unfold allP; simp [Key.isP]
 refine bw R.is (p := .str s.str) rfl ap ?_ h
 cases s <;> rfl
theorem pz (x : Ctx F G K Gb W W' r lr n0 H0 H A S S) (h : ∀ y H', Ctx F G K Gb W W' r lr n0 H0 H' A S S → T (.next, rl Gb.td bg deed G.su F.fl rows K.bk y y8 y9 y10 y11 y12) H') :
  Ok (sFor (itL dJ (ac (eC (.int 8)) (lNil))) (aT 7)
  (ai (sIf (bV (e2 mNe (eL aV (ac (aw (au 204 "tokens_of") az (eLoc 4) (ac (av (ac (eC (.str "reg")) (ac (eLoc 7) (lNil)))) (lNil))) (lNil))) (eL aV (ac (e2 ah (e2 ah (eLoc 6) (eC (.str "held"))) (eLoc 7)) (lNil)))))
  (ai (sRet (eC (.bool false)))
 (sNil))
  (sNil))
 (sNil)) (rl Gb.td bg deed G.su F.fl rows K.bk y7 y8 y9 y10 y11 y12)) H T := by
 refine b5 <| iz <| aa <| ok_C <| ae <| ju (by decide) ?_
 show Ok (bt (fun ξ => True) _ _ ((List.finRange 8).map fun q => V.int ((q.val : Nat) : Int)) _) _ _
 refine cj (mk := fun y => rl Gb.td bg deed G.su F.fl rows K.bk y y8 y9 y10 y11 y12) (fun ξ H' => Ctx F G K Gb W W' r lr n0 H0 H' A S S) (fun ξ ξ ξ => trivial) (fun ds q rs y H₁ ξ x₁ => ?_) y7 x h
 refine ⟨rl Gb.td bg deed G.su F.fl rows K.bk (some (.int ((q.val : Nat) : Int))) y8 y9 y10 y11 y12, rfl, ?_⟩
 refine af <| aD <| aR <| ak <| aC <| aa <| x₁.fl.callI rfl (fun ξ => rfl) <| aa <| aB <| aa <| ok_C <| aa <| ad rfl <| ae ⟨lim2, ae <| (fy x₁.fl (r := q)).mono fun v H₂ g => ?_⟩
 obtain ⟨l, ts, rfl, hl, nd, ht, e₂, ξ⟩ := g
 have x₂ := x₁.ext e₂
 have t1 := tie_tk (S := S) (c := .held q) (p := false) rfl nd ht
 have hl' : H₂[l]? = some (.list ((ts.map (Cont.held q).of).map fv)) := by
  rw [hl, List.map_map]
  congr 2
  exact List.map_congr_left fun t ξ => by show t.v = V.ofKey ((Cont.held q).of t).key; rw [Cont.of_key (p := false) rfl, Tk.of_key]
 refine ae <| hF t1 hl' ?_
 have x₃ := x₂.ext (Ext.app (t := [srt (ts.map (Cont.held q).of)]))
 obtain ⟨gs, t2, hg⟩ := x₃.bk.tie (.held q)
 refine aC <| aa <| ak <| x₃.bk.held rfl <| ad rfl <| x₃.bk.reg <| ae <| hF t2 hg ?_
 have x₄ := x₃.ext (Ext.app (t := [srt gs]))
 refine iW (neg := true) (fs := gs) (by rw [← t1.same t2]; exact bu aj) aj ⟨_, rfl, ?_⟩
 exact ag ⟨rfl, ag ⟨.inl rfl, ⟨_, rfl⟩, x₄⟩⟩
theorem nY (x : Ctx F G K Gb W W' r lr n0 H0 H A S S) (h : ∀ y H', Ctx F G K Gb W W' r lr n0 H0 H' A S S → T (.next, rl Gb.td bg deed G.su F.fl rows K.bk y7 y y9 y10 y11 y12) H') :
  Ok (sFor (itV (am (ac (eC (.str "a")) (ac (eC (.str "b")) (ac (eC (.str "c")) (ac (eC (.str "d")) (lNil))))))) (aT 8)
  (ai (sIf (bV (e2 mNe (eL aV (ac (aw eM mGet (e1 (aG 204 "inside") (eLoc 4)) (ac (eLoc 8) (ac (ch) (lNil)))) (lNil))) (eL aV (ac (e2 ah (e2 ah (eLoc 6) (eC (.str "inside"))) (eLoc 8)) (lNil)))))
  (ai (sRet (eC (.bool false)))
 (sNil))
  (sNil))
 (sNil)) (rl Gb.td bg deed G.su F.fl rows K.bk y7 y8 y9 y10 y11 y12)) H T := by
 refine aS <| aF <| aa <| ok_C <| aa <| ok_C <| aa <| ok_C <| aa <| ok_C <| ae ⟨show 4 ≤ lim by decide, rfl, aj, ?_⟩
 have x₀ := x.ext (Ext.app (t := [.list [.str "a", .str "b", .str "c", .str "d"]]))
 have g₀ := aj (H := H) (m := .list [.str "a", .str "b", .str "c", .str "d"])
 show Ok (bt _ _ _ (([.a, .b, .c, .d] : List Site).map fun s => V.str s.str) _) _ _
 refine cj (mk := fun y => rl Gb.td bg deed G.su F.fl rows K.bk y7 y y9 y10 y11 y12) (fun ξ H' => H'[H.length]? = some (.list [.str "a", .str "b", .str "c", .str "d"]) ∧ Ctx F G K Gb W W' r lr n0 H0 H' A S S) (fun ξ ξ w => w.1) (fun ds s rs y H₁ ξ w => ?_) y8 ⟨g₀, x₀⟩ fun y H₁ w => h y H₁ w.2
 obtain ⟨gl, x₁⟩ := w
 refine ⟨rl Gb.td bg deed G.su F.fl rows K.bk y7 (some (.str s.str)) y9 y10 y11 y12, rfl, ?_⟩
 have e₂ : Ext H₁ (H₁ ++ [MObj.dict [] 0]) := .app
 have x₂ := x₁.ext e₂
 refine af <| aD <| aR <| ak <| aC <| aa <| bn <| x₁.fl.ns_inst (v := .ref F.di) (fun ξ => rfl) rfl <| ad rfl ⟨rfl, x₁.fl, b8 (x₁.fl.tab true).1 <| aa <| ad rfl <| aa <| cq <| ae <| x₂.fl.get (c := .ins s) (p := true) rfl rfl ⟨0, aj⟩ fun l ts hx ξ ht => ?_⟩
 have t1 := tie_tk (S := S) (c := .ins s) (p := true) rfl hx.2 ht
 have hl' : IsD (H₁ ++ [MObj.dict [] 0]) l (((ts.map (Cont.ins s).of).map Fact.key).map ent) := by
  have : (ts.map (Cont.ins s).of).map Fact.key = ts.map Tk.key := by
   rw [List.map_map]
   exact List.map_congr_left fun t ξ => Cont.of_key (c := .ins s) (p := true) rfl t
  rw [this]
  exact hx.1
 refine ae <| jV t1 hl' ?_
 have e₃ := e₂.trans (Ext.app (t := [srt (ts.map (Cont.ins s).of)]))
 have x₃ := x₁.ext e₃
 obtain ⟨gs, t2, hg⟩ := x₃.bk.tie (.ins s)
 refine aC <| aa <| ak <| x₃.bk.inside rfl <| ad rfl <| x₃.bk.site <| ae <| hF t2 hg ?_
 have e₄ := e₃.trans (Ext.app (t := [srt gs]))
 refine iW (neg := true) (fs := gs) (by rw [← t1.same t2]; exact bu aj) aj ⟨_, rfl, ?_⟩
 exact ag ⟨rfl, ag ⟨.inl rfl, ⟨_, rfl⟩, e₄.get gl, x₁.ext e₄⟩⟩
theorem pv (x : Ctx F G K Gb W W' r lr n0 H0 H A S S) (h : ∀ lc H', Ctx F G K Gb W W' r lr n0 H0 H' A S S → T (.ret (.bool true), lc) H') :
  Ok (ai (sIf (bOr (bV (e2 mNe (eL aV (ac (e1 (aG 204 "gone") (eLoc 4)) (lNil))) (eL aV (ac (e2 ah (eLoc 6) (eC (.str "gone"))) (lNil))))) (bOr (bV (e2 mNe (eL aV (ac (e1 (aG 54 "leaks") (e1 (aG 204 "summary") (eLoc 4))) (lNil))) (eL aV (ac (e2 ah (eLoc 6) (eC (.str "leaks"))) (lNil))))) (eC false)))
  (ai (sRet (eC (.bool false)))
 (sNil))
  (sNil))
 (ai (sRet (e2 mEq (eL aV (ac (e1 (aG 54 "kept") (e1 (aG 204 "summary") (eLoc 4))) (lNil))) (eL aV (ac (e2 ah (eLoc 6) (eC (.str "kept"))) (lNil)))))
 (sNil)) (rl Gb.td bg deed G.su F.fl rows K.bk y7 y8 y9 y10 y11 y12)) H T := by
 obtain ⟨f1, t1, d1⟩ := x.fl.tie (c := .gone) rfl
 obtain ⟨g1, u1, b1⟩ := x.bk.tie .gone
 have e1 : Ext H (H ++ [srt f1]) := .app
 have e2' := e1.trans (Ext.app (t := [srt g1]))
 have x2 := x.ext e2'
 obtain ⟨f2, t2, d2⟩ := x2.fl.tie (c := .leaks) rfl
 obtain ⟨g2, u2, b2⟩ := x2.bk.tie .leaks
 have e3 : Ext (H ++ [srt f1] ++ [srt g1]) (H ++ [srt f1] ++ [srt g1] ++ [srt f2]) := .app
 have e4 := e3.trans (Ext.app (t := [srt g2]))
 have x4 := x2.ext e4
 obtain ⟨f3, t3, d3⟩ := x4.fl.tie (c := .kept) rfl
 obtain ⟨g3, u3, b3⟩ := x4.bk.tie .kept
 have e5 : Ext (H ++ [srt f1] ++ [srt g1] ++ [srt f2] ++ [srt g2]) (H ++ [srt f1] ++ [srt g1] ++ [srt f2] ++ [srt g2] ++ [srt f3]) := .app
 have e6 := e5.trans (Ext.app (t := [srt g3]))
 have x6 := x4.ext e6
 refine af <| aD <| iU <| aR <| ak <| aC <| aa <| x.fl.ns_inst (v := .ref F.dg) (fun ξ => rfl) rfl <| ad rfl ⟨rfl, x.fl, ae <| jV t1 d1 ?_⟩
 refine aC <| aa <| (x.ext e1).bk.gone rfl <| ae <| hF u1 (e1.get b1) ?_
 refine iW (neg := true) (fs := g1) (by rw [← t1.same u1]; exact bu aj) aj ⟨_, rfl, ?_⟩
 refine iU <| aR <| ak <| aC <| aa <| cA <| x2.fl.ns_inst (v := .ref F.su) (fun ξ => rfl) rfl <| ad rfl ⟨rfl, x2.fl, bE x2.fl.su x2.fl.sd rfl rfl <| ae <| jV t2 d2 ?_⟩
 refine aC <| aa <| (x2.ext e3).bk.leaks rfl <| ae <| hF u2 (e3.get b2) ?_
 refine iW (neg := true) (fs := g2) (by rw [← t2.same u2]; exact bu aj) aj ⟨_, rfl, c9 <| ag ⟨rfl, ?_⟩⟩
 refine aK <| bZ <| ak <| aC <| aa <| cA <| x4.fl.ns_inst (v := .ref F.su) (fun ξ => rfl) rfl <| ad rfl ⟨rfl, x4.fl, bE x4.fl.su x4.fl.sd rfl rfl <| ae <| jV t3 d3 ?_⟩
 refine aC <| aa <| (x4.ext e5).bk.kept rfl <| ae <| hF u3 (e5.get b3) ?_
 exact iW (neg := false) (fs := g3) (by rw [← t3.same u3]; exact bu aj) aj (h _ _ x6)
end
section
variable {F : Fix} {G G' : TFix} {K : BFix} {Gb : TB} {W W' W'' : Told} {r : Bool → Fin 8} {lr n0 bg rows sm : Nat} {deed : V} {H0 H H' : MH} {A A' : At} {S S' SB SB' : St} {P : V → MH → Prop} {T : Fl × Loc → MH → Prop} {loc : Loc} {y7 y8 y9 y10 y11 y12 : Option V}
inductive J1At {β : Type} (Good : MH → At → St → Prop) (X : β → Fact → Prop) (S : St) (ds : List β) (H' : MH) : Prop where
 | mk (A' : At) (S' : St) (x : Good H' A' S') (mo : More (fun f => ∃ q ∈ ds, X q f) S S') : J1At Good X S ds H'
theorem More.by' {S S' : St} {ts : List Tk} {c : Tk → Fact} {P : Tk → Prop} (m : More (fun f => ∃ t ∈ ts, f = c t) S S') (h : ∀ t, t ∈ ts ↔ P t) : More (fun f => ∃ t, P t ∧ f = c t) S S' := fun f => (m f).trans (or_congr .rfl (exists_congr fun t => and_congr (h t) .rfl))
theorem ok_gives (x : Ctx F G K Gb W W' r lr n0 H0 H A S SB)
  (h : ∀ y H' A' S', Ctx F G K Gb W W' r lr n0 H0 H' A' S' SB → (∀ f, S' f ↔ S f ∨ ∃ q ∈ ([2, 3, 4, 5] : List (Fin 8)), ∃ t, SB (.held q t) ∧ f = .held q t) → T (.next, rl Gb.td bg deed G.su F.fl rows K.bk y y8 y9 y10 y11 y12) H') :
  Ok (sFor (itL dJ (ac (eC (.int 2)) (ac (eC (.int 6)) (lNil)))) (aT 7)
  (ai (aL (aw (au 204 "give") aX (eLoc 4) (ac (eLoc 7) (ac (e2 ah (e2 ah (eLoc 6) (eC (.str "held"))) (eLoc 7)) (lNil)))))
 (sNil)) (rl Gb.td bg deed G.su F.fl rows K.bk y7 y8 y9 y10 y11 y12)) H T := by
 refine b5 <| iz <| aa <| ok_C <| aa <| ok_C <| ae <| qZ (by decide) ?_
 show Ok (bt (fun ξ => True) _ _ (([2, 3, 4, 5] : List (Fin 8)).map fun q => V.int ((q.val : Nat) : Int)) _) _ _
 refine cj (mk := fun y => rl Gb.td bg deed G.su F.fl rows K.bk y y8 y9 y10 y11 y12) (J1At (fun H' A' S' => Ctx F G K Gb W W' r lr n0 H0 H' A' S' SB) (fun q f => ∃ t, SB (.held q t) ∧ f = .held q t) S) (fun ξ ξ ξ => trivial) (fun ds q rs y H₁ ξ w => ?_) y7 ⟨A, S, x, .nil⟩ fun y H₁ w => ?_
 ·obtain ⟨A₁, S₁, x₁, hs⟩ := w
  obtain ⟨ts, ht, ξ, mt⟩ := x₁.bk.toks (c := .held q) (p := false) rfl
  refine ⟨rl Gb.td bg deed G.su F.fl rows K.bk (some (.int ((q.val : Nat) : Int))) y8 y9 y10 y11 y12, rfl, ?_⟩
  refine af <| aq <| x₁.fl.callI rfl (fun ξ => rfl) <| aa <| ad rfl <| aa <| ak <| x₁.bk.held rfl <| ad rfl <| x₁.bk.reg <| ae <| (ok_giveX x₁.fl (r := q) ht).mono fun ξ H₂ g => ⟨rfl, ag ⟨.inl rfl, ⟨_, rfl⟩, ?_⟩⟩
  obtain ⟨A₂, S₂, R₂, fr₂, mo⟩ := g
  exact ⟨A₂, S₂, x₁.flow R₂ fr₂, hs.step (mo.by' fun t => mt t)⟩
 ·obtain ⟨A₁, S₁, x₁, hs⟩ := w
  exact h y H₁ A₁ S₁ x₁ hs
theorem ok_puts (x : Ctx F G K Gb W W' r lr n0 H0 H A S SB) (hn : ∀ s, ¬ S (.gone s))
  (h : ∀ y H' A' S', Ctx F G K Gb W W' r lr n0 H0 H' A' S' SB → (∀ f, S' f ↔ S f ∨ ∃ s ∈ ([.a, .b] : List Site), ∃ t, SB (.ins s t) ∧ f = .ins s t) → T (.next, rl Gb.td bg deed G.su F.fl rows K.bk y7 y y9 y10 y11 y12) H') :
  Ok (sFor (itV (am (ac (eC (.str "a")) (ac (eC (.str "b")) (lNil))))) (aT 8)
  (ai (aL (aw (au 204 "put") bj (eLoc 4) (ac (am (ac (av (ac (eC (.str "site")) (ac (eLoc 8) (lNil)))) (lNil))) (ac (e2 ah (e2 ah (eLoc 6) (eC (.str "inside"))) (eLoc 8)) (lNil)))))
 (sNil)) (rl Gb.td bg deed G.su F.fl rows K.bk y7 y8 y9 y10 y11 y12)) H T := by
 refine aS <| aF <| aa <| ok_C <| aa <| ok_C <| ae ⟨lim2, rfl, aj, ?_⟩
 have x₀ := x.ext (Ext.app (t := [.list [.str "a", .str "b"]]))
 have g₀ := aj (H := H) (m := .list [.str "a", .str "b"])
 show Ok (bt _ _ _ (([.a, .b] : List Site).map fun s => V.str s.str) _) _ _
 refine cj (mk := fun y => rl Gb.td bg deed G.su F.fl rows K.bk y7 y y9 y10 y11 y12) (J1At (fun H' A' S' => H'[H.length]? = some (.list [.str "a", .str "b"]) ∧ (∀ s, ¬ S' (.gone s)) ∧ Ctx F G K Gb W W' r lr n0 H0 H' A' S' SB) (fun s f => ∃ t, SB (.ins s t) ∧ f = .ins s t) S) (fun ξ ξ w => by obtain ⟨ξ, ξ, x₁, ξ⟩ := w; exact x₁.1) (fun ds q rs y H₁ ξ w => ?_) y8 ⟨A, S, ⟨g₀, hn, x₀⟩, .nil⟩ fun y H₁ w => ?_
 ·obtain ⟨A₁, S₁, ⟨gl, hn₁, x₁⟩, hs⟩ := w
  refine ⟨rl Gb.td bg deed G.su F.fl rows K.bk y7 (some (.str q.str)) y9 y10 y11 y12, rfl, ?_⟩
  have e₂ : Ext H₁ (H₁ ++ [MObj.list [(Tk.site q).v]]) := .app
  have x₂ := x₁.ext e₂
  obtain ⟨ts, ht, ξ, mt⟩ := x₂.bk.toks (c := .ins q) (p := true) rfl
  refine af <| aq <| x₁.fl.callI rfl (fun ξ => rfl) <| aa <| aF <| aa <| aB <| aa <| ok_C <| aa <| ad rfl <| ae ⟨lim2, ae ⟨lim1, aa <| ak <| x₂.bk.inside rfl <| ad rfl <| x₂.bk.site <| ae <| (ok_put1X x₂.fl (s := q) aj ht (hn₁ q)).mono fun ξ H₂ g => ⟨rfl, ag ⟨.inl rfl, ⟨_, rfl⟩, ?_⟩⟩⟩⟩
  obtain ⟨A₂, S₂, R₂, fr₂, mo⟩ := g
  refine ⟨A₂, S₂, ⟨fr₂.list x₂.fl (e₂.get gl), fun s w => ?_, x₂.flow R₂ fr₂⟩, hs.step (mo.by' fun t => mt t)⟩
  rcases (mo _).mp w with w | ⟨t, ξ, w⟩
  ·exact hn₁ s w
  ·cases w
 ·obtain ⟨A₁, S₁, x₁, hs⟩ := w
  exact h y H₁ A₁ S₁ x₁.2.2 hs
theorem start_eq {b : Fin 4 → List Tk} {S₁ S₂ : St} (h1 : ∀ f, S₁ f ↔ SI f ∨ ∃ q ∈ ([2, 3, 4, 5] : List (Fin 8)), ∃ t, S0 b (.held q t) ∧ f = .held q t) (h2 : ∀ f, S₂ f ↔ S₁ f ∨ ∃ s ∈ ([.a, .b] : List Site), ∃ t, S0 b (.ins s t) ∧ f = .ins s t) : S₂ = S0 b :=
 St.ext fun f => by
  rw [h2, h1]
  constructor
  ·rintro (((rfl | rfl) | ⟨q, ξ, t, h, rfl⟩) | ⟨s, ξ, t, h, rfl⟩)
   ·exact List.mem_singleton.mpr rfl
   ·exact List.mem_singleton.mpr rfl
   ·exact h
   ·exact h
  ·intro h
   cases f with
   | held q t =>
    revert q
    refine fin8 (fun h => ?_) (fun h => ?_) (fun h => .inl (.inr ⟨2, by decide, t, h, rfl⟩)) (fun h => .inl (.inr ⟨3, by decide, t, h, rfl⟩)) (fun h => .inl (.inr ⟨4, by decide, t, h, rfl⟩)) (fun h => .inl (.inr ⟨5, by decide, t, h, rfl⟩)) (fun h => by cases h) (fun h => by cases h)
    ·rw [show t = .out false from List.mem_singleton.mp h]; exact .inl (.inl (.inl rfl))
    ·rw [show t = .out true from List.mem_singleton.mp h]; exact .inl (.inl (.inr rfl))
   | ins s t =>
    cases s
    ·exact .inr ⟨.a, by simp, t, h, rfl⟩
    ·exact .inr ⟨.b, by simp, t, h, rfl⟩
    ·cases h
    ·cases h
   | gone s => exact h.elim
   | leak o => exact h.elim
   | kept i o => exact h.elim
end
section
variable {H : MH} {Gb : TB} {W : Told} {bg : Nat} {g : Fin 4 → Nat} {b : Fin 4 → List Tk} {r : Bool → Fin 8} {lr : Nat}
theorem told_all (W : Told) : (fun c => if c = true then W.t true else if c = false then W.t false else noT c) = W.t := funext fun c => by cases c <;> rfl
theorem nT (x : Inp H Gb W bg g b r lr) (hW : W.Ok) {w : Wo} : Ok (dB [.ref Gb.td, .ref bg, .tup [.str w.str, .ref lr]]) H fun v H' => v = .bool true ∧ H.length ≤ H'.length ∧ ∀ i, i < H.length → (∀ j, i ≠ g j) → H'[i]? = H[i]? := by
 refine a9 rfl <| ok_rows x.bg ?_
 have fr : ∀ i, i < H.length → (∀ j, i ≠ g j) → Free (kOf H.length g) i := fun i hi hg => x.free hi hg
 have x₀ := x.ctx
 have D := Inp.tdi (H := H) (g := g)
 have ebk : (kOf H.length g).bk = H.length + 32 := rfl
 have efl : (ik (H.length + 5)).fl = H.length + 15 := rfl
 have esu : (gOf H.length).su = H.length + 1 := rfl
 rw [← ebk, ← efl, ← esu]
 generalize ik (H.length + 5) = F at x₀ D ⊢
 generalize atOf (H.length + 5) = A at x₀
 generalize gOf H.length = G at x₀ D ⊢
 generalize kOf H.length g = K at x₀ D fr ⊢
 generalize H.length + 30 = rows
 generalize H ++ setL H.length g = H₁ at x₀ ⊢
 refine af <| ok_gives x₀ fun y7 H₂ A₂ S₂ x₂ h2 => ⟨rfl, ?_⟩
 have ng : ∀ s, ¬ S₂ (.gone s) := fun s q => by
  rcases (h2 _).mp q with (q | q) | ⟨_, _, _, _, q⟩
  ·cases q
  ·cases q
  ·cases q
 refine af <| ok_puts x₂ ng fun y8 H₃ A₃ S₃ x₃ h3 => ⟨rfl, ?_⟩
 have hS : S₃ = S0 b := start_eq h2 h3
 subst hS
 refine af <| mV x₃ D hW fun y9 H₄ x₄ => ⟨rfl, ?_⟩
 refine af <| nU x₄ D hW fun y9 H₅ x₅ => ⟨rfl, ?_⟩
 refine af <| b5 <| iz <| aa <| ok_C <| ae <| ju (by decide) ?_
 refine gm trivial rfl <| af <| jJ (b := false) x₅ D hW rfl (fun ξ => rfl) fun y9 t₆ H₆ x₆ D₆ => ⟨rfl, ag ⟨.inl rfl, ?_⟩⟩
 refine gm trivial rfl <| af <| jJ (b := true) x₆ D₆ hW rfl (fun q => by cases q) fun y9 t₇ H₇ x₇ D₇ => ⟨rfl, ag ⟨.inl rfl, ?_⟩⟩
 refine lV trivial ⟨rfl, ?_⟩
 have x₇' : Ctx F { G with t := t₇ } K Gb W W r lr H.length H H₇ A₃ (S0 b) (S0 b) := by
  have e := told_all W
  have x₈ := x₇
  rw [show (fun c => if c = true then W.t true else (fun c => if c = false then W.t false else noT c) c) = W.t from e] at x₈
  exact x₈
 clear x₂ x₃ x₄ x₅ x₆ x₇ D D₆ D₇ h2 h3 ng x₀
 rw [show G.su = ({ G with t := t₇ } : TFix).su from rfl]
 generalize ({ G with t := t₇ } : TFix) = G₇ at x₇' ⊢
 refine af <| aO <| ok_many x₇'.tb hW rfl ⟨rfl, ?_⟩
 refine af <| aD <| aR <| ak <| aC <| aa <| ad rfl <| ae <| pj x₇'.tf.rep hW fun H₈ e₈ => ad rfl <| gG (neg := true) (dY _) (dY _) ⟨_, rfl, ?_⟩
 rw [decide_eq_true rfl]
 have x₈ := x₇'.ext e₈
 refine ag ⟨rfl, ?_⟩
 refine af <| aO <| dR (i := 1) <| ok_C ⟨rfl, rfl, ?_⟩
 refine af <| kP (Wr := fun H' S => ∃ A, Ctx F G₇ K Gb W W r lr H.length H H' A S (S0 b)) (C := Deed W r w) (mk := fun a => rl Gb.td bg (.tup [.str w.str, .ref lr]) G₇.su F.fl rows K.bk y7 y8 y9 (some (.int (oi true))) (some (.int W.size)) (some (.int a))) (fun ξ => rfl) (fun ξ ξ => rfl) (fun a H' S hw P k => ?_) (fun a H' S hw P k => ?_) ⟨_, x₈⟩ fun a H₉ SF hw hc hle hsn => ⟨rfl, ?_⟩
 ·obtain ⟨A, x⟩ := hw
  exact ok_fsize x.fl rfl fun n H'' c e => k n H'' c ⟨A, x.ext e⟩
 ·obtain ⟨A, x⟩ := hw
  refine af <| aq <| aC <| aa <| ad rfl <| aa <| ad rfl <| ae <| (ok_do x.fl x.tf hW x.hr (w := w)).mono fun ξ H'' q => ⟨rfl, ag ?_⟩
  obtain ⟨A'', S'', R'', fr'', d⟩ := q
  exact k H'' S'' ⟨A'', x.flow R'' fr''⟩ d
 obtain ⟨A₉, x₉⟩ := hw
 refine af <| aO <| dR (i := 1) <| ok_C ⟨rfl, rfl, ?_⟩
 refine af <| kP (Wr := fun H' S => Ctx F G₇ K Gb W W r lr H.length H H' A₉ SF S) (C := Deed W r w) (mk := fun a => rl Gb.td bg (.tup [.str w.str, .ref lr]) G₇.su F.fl rows K.bk y7 y8 y9 (some (.int (oi true))) (some (.int W.size)) (some (.int a))) (fun ξ => rfl) (fun ξ ξ => rfl) (fun a H' S hw P k => ?_) (fun a H' S hw P k => ?_) x₉ fun a' H₁₀ SB x₁₀ hc' hle' hsn' => ⟨rfl, ?_⟩
 ·exact ok_bsize hw.bk rfl fun n H'' c e => k n H'' c (hw.ext e)
 ·refine af <| aq <| aC <| aa <| ad rfl <| aa <| ad rfl <| aa <| ad rfl <| ae <| (ok_done hw.bk hw.tb hW hw.hr hw.fr (w := w)).mono fun ξ H'' q => ⟨rfl, ag ?_⟩
  obtain ⟨S'', R'', fr'', d⟩ := q
  exact k H'' S'' (hw.book R'' fr'') d
 have same : SF = SB := Doing.same hsn hc hle hsn' hc' hle'
 subst same
 refine af <| pz x₁₀ fun y H₁₁ x₁₁ => ⟨rfl, ?_⟩
 refine af <| nY x₁₁ fun y' H₁₂ x₁₂ => ⟨rfl, ?_⟩
 refine pv x₁₂ fun lc H₁₃ x₁₃ => .inl ⟨_, rfl, rfl, x₁₃.len, fun i hi hg => x₁₃.old i hi (fr i hi hg)⟩
end
section
variable {H : MH} {P : V → MH → Prop} {T : Fl × Loc → MH → Prop} {loc : Loc}
theorem e9 {f : Int → Int → Int} {ok : Int → Int → Bool} {i j : Int} (ho : ok i j = true) (h : P (.int (f i j)) H) : Ok (i2 f ok (.int i) (.int j)) H P := ⟨_, H, by unfold i2; dsimp only; rw [if_pos ho] <;> rfl, h⟩
theorem jI {l k : Nat} {xs : List V} {v : V} (e : H[l]? = some (.list xs)) (hk : k < xs.length) (hk' : k < 1000) (h : P .none (H.set l (.list (xs.set k v)))) : Ok (cg (.ref l) (.int ((k : Nat) : Int)) v) H P := by
 refine ⟨_, _, ?_, h⟩
 unfold cg
 have hc : (0 : Int) ≤ (k : Int) ∧ (k : Int) < 1000000 ∧ k < xs.length := ⟨by omega, by omega, hk⟩
 dsimp only
 rw [e]
 exact if_pos hc
noncomputable def spl (a c : Int) : MObj := .list [.int a, .int c]
theorem lm {x : Int} {m : Nat} (hm : 0 < m) : ∃ k : Nat, k < m ∧ Int.fmod x m = k := by
 have h1 : 0 ≤ Int.fmod x m := Int.fmod_nonneg_of_pos _ (by omega)
 have h2 : Int.fmod x m < m := Int.fmod_lt_of_pos _ (by omega)
 exact ⟨(Int.fmod x m).toNat, by omega, by omega⟩
theorem nV {sp : Nat} {a c : Int} {m : Nat} (e : H[sp]? = some (spl a c)) (hm : 0 < m) (hm' : m < 1000) (h : ∀ a' c' (k : Nat), k < m → P (.int k) (H.set sp (spl a' c'))) : Ok (cH [.ref sp, .int m]) H P := by
 have item0 : ∀ (Q : V → MH → Prop) (H' : MH) (a c : Int), H'[sp]? = some (spl a c) → Q (.int a) H' → Ok (ah (.ref sp) (.int 0)) H' Q := fun Q H' a c e q => b7 (i := 0) e (by decide) rfl q
 have item1 : ∀ (Q : V → MH → Prop) (H' : MH) (a c : Int), H'[sp]? = some (spl a c) → Q (.int c) H' → Ok (ah (.ref sp) (.int 1)) H' Q := fun Q H' a c e q => b7 (i := 1) e (by decide) rfl q
 refine a9 rfl <| aK <| aD <| aR <| ak <| ak <| ad rfl <| ok_C <| item0 _ _ _ _ e <| ok_C <| ok_gt ⟨_, rfl, ?_⟩
 by_cases ha : a > 0
 ·rw [decide_eq_true ha]
  refine af <| aO <| ak <| ak <| ad rfl <| ok_C <| item0 _ _ _ _ e <| ad rfl <| e9 (by simp [okMod]; omega) ⟨rfl, ?_⟩
  obtain ⟨k, hk, ek⟩ := lm (x := a) hm
  rw [ek]
  refine af <| bi <| ak <| ak <| ad rfl <| ok_C <| item0 _ _ _ _ e <| ad rfl <| e9 (by simp [okDiv]; omega) <| ad rfl <| ok_C <| jI (k := 0) e (by simp) (by decide) ⟨rfl, ?_⟩
  exact aK <| bZ <| ad rfl <| .inl ⟨_, rfl, h _ _ k hk⟩
 ·rw [decide_eq_false ha]
  refine ag ?_
  refine af <| bi <| ak <| ak <| ak <| ak <| ad rfl <| ok_C <| item1 _ _ _ _ e <| ok_C <| e9 rfl <| ok_C <| dG <| ok_C <| e9 rfl <| ad rfl <| ok_C <| jI (k := 1) e (by simp) (by decide) ⟨rfl, ?_⟩
  obtain ⟨c', hc', ec⟩ := lm (x := c * 39373 + 7) (m := 2147483647) (by decide)
  have e' : (H.set sp (.list ([V.int a, .int c].set 1 (.int (Int.fmod (c * 39373 + 7) 2147483647)))))[sp]? = some (spl a (Int.fmod (c * 39373 + 7) 2147483647)) := cD e
  refine aK <| bZ <| ak <| ak <| ak <| ak <| ak <| ad rfl <| ok_C <| item1 _ _ _ _ e' <| ak <| ad rfl <| ok_C <| item1 _ _ _ _ e' <| e9 ?_ <| ok_C <| e9 rfl <| ok_C <| e9 rfl <| ad rfl <| e9 (by simp [okMod]; omega) <| .inl ⟨_, rfl, ?_⟩
  ·have : Int.fmod (c * 39373 + 7) 2147483647 = (c' : Int) := ec
   rw [this]
   simp only [qh, Bool.and_eq_true, decide_eq_true_eq]
   omega
  ·obtain ⟨k, hk, ek⟩ := lm (x := Int.fdiv (Int.fmod (Int.fmod (c * 39373 + 7) 2147483647 * Int.fmod (c * 39373 + 7) 2147483647) 2147483629) 32) hm
   rw [ek]
   exact h a _ k hk
end
section
variable {H L : MH} {P : V → MH → Prop} {T : Fl × Loc → MH → Prop} {loc : Loc} {α : Type} {val : α → V}
inductive SomeAt (sp : Nat) (val : α → V) (H : MH) (ds : List α) (H' : MH) : Prop
 | mk (ys : List α) (a c : Int) (sub : ys.Sublist ds) (eH : H' = H.set sp (spl a c) ++ [.list (ys.map val)]) : SomeAt sp val H ds H'
theorem ok_some {sp lt : Nat} {a c : Int} {xs : List α} (e : H[sp]? = some (spl a c)) (el : H[lt]? = some (.list (xs.map val))) (ne : lt ≠ sp) (hl : xs.length ≤ 100)
  (h : ∀ a' c' (ys : List α), ys.Sublist xs → P (.ref H.length) (H.set sp (spl a' c') ++ [.list (ys.map val)])) : Ok (bQ [.ref sp, .ref lt]) H P := by
 have hs := bA e
 have ht := bA el
 refine a9 rfl <| aK <| bZ <| hK <| bK <| ad rfl <| bh el ?_
 have hlen : ∀ a c, (H.set sp (spl a c)).length = H.length := fun a c => List.length_set
 refine jv (mk := fun y => [none, y, none, some (.ref sp)]) (SomeAt sp val H) (fun ds H' q => ?_) (fun ds x rs y H' hd q => ?_) none ⟨[], a, c, .slnil, by rw [j8 e]; rfl⟩ fun y H' q => ?_
 ·obtain ⟨ys, a, c, ξ, rfl⟩ := q
  show (H.set sp (spl a c) ++ [MObj.list (ys.map val)])[lt]? = _
  rw [List.getElem?_append_left (by rw [hlen]; exact ht), List.getElem?_set_ne (Ne.symm ne)]
  exact el
 ·obtain ⟨ys, a, c, sub, rfl⟩ := q
  have hy : ys.length ≤ 100 := by
   have := sub.length_le
   rw [hd, List.length_append] at hl
   omega
  refine ⟨[none, some (val x), none, some (.ref sp)], rfl, ?_⟩
  have es : (H.set sp (spl a c) ++ [MObj.list (ys.map val)])[sp]? = some (spl a c) := by
   rw [List.getElem?_append_left (by rw [hlen]; exact hs)]
   exact cD e
  refine aR <| ak <| aC <| aa <| ad rfl <| aa <| ok_C <| ae <| nV (m := 3) es (by decide) (by decide) fun a' c' k hk => ok_C <| gG (dY _) (dY _) ⟨_, rfl, ?_⟩
  rw [List.set_append_left _ _ (by rw [hlen]; exact hs), List.set_set]
  by_cases hk0 : (k : Int) = 0
  ·rw [decide_eq_true hk0]
   refine fV <| ad rfl ⟨ys.map val, ?_, ?_, ⟨_, rfl⟩, ys ++ [x], a', c', sub.append (.refl _), ?_⟩
   ·rw [List.getElem?_append_right (by rw [hlen]; exact Nat.le_refl _), hlen]; simp
   ·rw [List.length_map]; exact Nat.lt_of_le_of_lt hy (by decide)
   ·rw [List.set_append_right _ _ (by rw [hlen]; exact Nat.le_refl _), hlen]; simp
  ·rw [decide_eq_false hk0]
   exact ⟨⟨_, rfl⟩, ys, a', c', sub.trans (List.sublist_append_left ..), rfl⟩
 ·obtain ⟨ys, a, c, sub, rfl⟩ := q
  exact .inl ⟨_, rfl, h a c ys sub⟩
theorem ew {k : Nat} {a c : Int} {xs : List α} (el : L[k]? = some (.list (xs.map val))) (hl : Nat.ble xs.length 100 = true)
  (h : ∀ a' c' (ys : List α), ys.Sublist xs → P (.ref (H.length + (L.length + 1))) (H ++ (spl a' c' :: (L ++ [.list (ys.map val)])))) : Ok (bQ [.ref (H.length + 0), .ref (H.length + (k + 1))]) (H ++ (spl a c :: L)) P := by
 refine ok_some (val := val) (xs := xs) (get_app.trans rfl) (get_app.trans el) (by omega) (Nat.le_of_ble_eq_true hl) fun a' c' ys sub => ?_
 rw [g7, List.length_append, List.append_assoc]
 exact h a' c' ys sub
theorem jy {a c : Int} {m : Nat} (hm : 0 < m) (hm' : m < 1000) (h : ∀ a' c' (k : Nat), k < m → P (.int k) (H ++ (spl a' c' :: L))) : Ok (cH [.ref (H.length + 0), .int m]) (H ++ (spl a c :: L)) P :=
 nV (get_app.trans rfl) hm hm' fun a' c' k hk => by rw [g7]; exact h a' c' k hk
theorem okA_one {k : Nat} {a c : Int} {xs : List V} (el : L[k]? = some (.list xs)) (h0 : 0 < xs.length) (hl : Nat.ble xs.length 100 = true) (h : ∀ a' c' (v : V), v ∈ xs → P v (H ++ (spl a' c' :: L))) : Ok (jz [.ref (H.length + 0), .ref (H.length + (k + 1))]) (H ++ (spl a c :: L)) P := by
 have hl' := Nat.le_of_ble_eq_true hl
 have el' : ∀ a c, (H ++ (spl a c :: L))[H.length + (k + 1)]? = some (.list xs) := fun a c => get_app.trans el
 refine a9 rfl <| aK <| bZ <| ak <| ad rfl <| aC <| aa <| ad rfl <| aa <| aC <| aa <| ad rfl <| ae <| cU (el' _ _) (Nat.le_trans hl' (by decide)) <| ae <| jy h0 (by omega) fun a' c' j hj => ?_
 exact b7 (el' _ _) (by omega) (List.getElem?_eq_getElem hj) (.inl ⟨_, rfl, h _ _ _ (List.getElem_mem hj)⟩)
theorem ok_spool {p : Nat} {is : List Int} (e : H[p]? = some (.flist (is.map .int))) (hl : is.length ≤ 63) (h : ∀ a c, P (.ref H.length) (H ++ [spl a c])) : Ok (gI [.ref p]) H P := by
 have len : ∀ Q : V → MH → Prop, Q (.int (is.length : Int)) H → Ok (mLen [.ref p]) H Q := fun Q q => ⟨_, H, by
  unfold mLen
  have : (is.map V.int).length ≤ lim := by rw [List.length_map]; exact Nat.le_trans hl (by decide)
  simp only [e, this, if_true]; rfl, by rw [List.length_map]; exact q⟩
 refine a9 rfl <| af <| aO <| bM <| aR <| ak <| aC <| aa <| ad rfl <| ae <| len _ <| ok_C <| ok_gt ⟨_, rfl, ?_⟩
 have rest : ∀ t : Int, Ok (ai (sSet 2 (eIf (bV (e2 mGe (eLoc 1) (eC (.int 0)))) (eLoc 1) (e2 mSub (e1 mNeg (eC (.int 1))) (eLoc 1))))
 (ai (sRet (am (ac (eIf (bV (e2 mGe (eLoc 2) (eC (.int (10 ^ 18))))) (eLoc 2) (eC (.int 0))) (ac (e2 mMod (e2 mMul (e2 mAdd (e2 mMod (eLoc 2) (eC (.int 2147483629))) (eC (.int 17))) (eC (.int 48271))) (eC (.int 2147483647))) (lNil)))))
 (sNil)) [some (.ref p), some (.int t), none, none]) H fun r H' => (∃ v, r.1 = .ret v ∧ P v H') ∨ (r.1 = .next ∧ P .none H') := fun t => by
  have two : ∀ s : Int, Ok (ai (sRet (am (ac (eIf (bV (e2 mGe (eLoc 2) (eC (.int (10 ^ 18))))) (eLoc 2) (eC (.int 0))) (ac (e2 mMod (e2 mMul (e2 mAdd (e2 mMod (eLoc 2) (eC (.int 2147483629))) (eC (.int 17))) (eC (.int 48271))) (eC (.int 2147483647))) (lNil)))))
 (sNil) [some (.ref p), some (.int t), some (.int s), none]) H fun r H' => (∃ v, r.1 = .ret v ∧ P v H') ∨ (r.1 = .next ∧ P .none H') := fun s => by
   refine aK <| bZ <| aF <| aa <| bM <| aR <| ak <| ad rfl <| ok_C <| ok_ge ⟨_, rfl, ?_⟩
   by_cases hs : s ≥ 10 ^ 18
   ·rw [decide_eq_true hs]
    exact ad rfl <| aa <| ak <| ak <| ak <| ak <| ad rfl <| ok_C <| e9 rfl <| ok_C <| dG <| ok_C <| e9 rfl <| ok_C <| e9 rfl <| ae ⟨lim2, .inl ⟨_, rfl, h _ _⟩⟩
   ·rw [decide_eq_false hs]
    exact ok_C <| aa <| ak <| ak <| ak <| ak <| ad rfl <| ok_C <| e9 rfl <| ok_C <| dG <| ok_C <| e9 rfl <| ok_C <| e9 rfl <| ae ⟨lim2, .inl ⟨_, rfl, h _ _⟩⟩
  refine af <| aO <| bM <| aR <| ak <| ad rfl <| ok_C <| ok_ge ⟨_, rfl, ?_⟩
  by_cases ht : t ≥ 0
  ·rw [decide_eq_true ht]
   exact ad rfl ⟨rfl, two t⟩
  ·rw [decide_eq_false ht]
   exact ak <| dR (i := 1) <| ok_C ⟨rfl, ad rfl <| e9 rfl ⟨rfl, two _⟩⟩
 cases is with
 | nil => exact ok_C ⟨rfl, rest 0⟩
 | cons i is =>
  rw [decide_eq_true (show ((i :: is).length : Int) > 0 by simp only [List.length_cons]; omega)]
  refine ak <| ad rfl <| ok_C ⟨.int i, H, ?_, rfl, rest i⟩
  unfold ah
  dsimp only
  rw [e] <;> rfl
end
noncomputable def noneL (n : Nat) : MH := [.dict [(.p (.str "leaks"), .ref (n + 1)), (.p (.str "kept"), .ref (n + 2)), (.p (.str "told"), .ref (n + 5))] 3, .list [], .list [], .list [], .list [], .list [.ref (n + 3), .ref (n + 4)],
 .list [], .list [], .list [], .list [], .list [.ref (n + 6), .ref (n + 7), .ref (n + 8), .ref (n + 9)], .list [.int 2, .int 3]]
noncomputable def noneB (n : Nat) : TB := { td := n + 0, lv := n + 1, kp := n + 2, tl := n + 5, t := fun b => n + (bif b then 4 else 3) }
noncomputable def goR : Bool → Fin 8 := fun b => bif b then 3 else 2
section
variable {H L : MH} {P : V → MH → Prop} {T : Fl × Loc → MH → Prop} {loc : Loc}
theorem none_inp : Inp (H ++ noneL H.length) (noneB H.length) ⟨[], [], noT⟩ (H.length + 10) (fun j => H.length + (6 + j.val)) (fun ξ => []) goR (H.length + 11) := {
 td := ⟨3, get_app (k := 0).trans rfl⟩
 lv := get_app (k := 1).trans rfl
 kp := get_app (k := 2).trans rfl
 tl := get_app (k := 5).trans rfl
 t := fun b => by cases b; exact get_app (k := 3).trans rfl; exact get_app (k := 4).trans rfl
 bg := get_app (k := 10).trans rfl
 gs := fin4 (get_app (k := 6).trans rfl) (get_app (k := 7).trans rfl) (get_app (k := 8).trans rfl) (get_app (k := 9).trans rfl)
 nd := fun ξ => .nil
 hr := get_app (k := 11).trans rfl
 inj := fun i j e => Fin.ext (Nat.add_left_cancel (Nat.add_left_cancel e))
 far := fun j => by
  have := j.isLt
  refine ⟨?_, ?_, ?_, fun b => ?_, ?_⟩
  ·exact gM (by decide)
  ·exact gM (by decide)
  ·exact gM (by decide)
  ·cases b <;> exact gM (by decide)
  ·omega }
theorem none_ok : (⟨[], [], noT⟩ : Told).Ok := ⟨.nil, .nil, fun ξ => .nil⟩
theorem ok_law1 {rest : SM} {is : List Int} (hf : H[0]? = some (.flist (is.map .int))) (h : ∀ H' y, H'[0]? = some (.flist (is.map .int)) → Ok (rest [some (.ref 0), y, none, none, none, none, none, none, none, none, none, none, none, none]) H' T) :
  Ok (ai (sSet 1 (cP (bd (eC (.str "leaks")) (am (lNil)) (bd (eC (.str "kept")) (am (lNil)) (bd (eC (.str "told")) (am (ac (am (lNil)) (ac (am (lNil)) (lNil)))) (dK))))))
 (ai (sIf (bNot (bV (eL dB (ac (eLoc 1) (ac (am (ac (am (lNil)) (ac (am (lNil)) (ac (am (lNil)) (ac (am (lNil)) (lNil)))))) (ac (av (ac (eC (.str "go")) (ac (am (ac (eC (.int 2)) (ac (eC (.int 3)) (lNil)))) (lNil)))) (lNil)))))))
  (ai (sRet (eC (.bool false)))
 (sNil))
  (sNil)) rest) [some (.ref 0), none, none, none, none, none, none, none, none, none, none, none, none, none]) H T := by
 refine kC <| af <| aO <| dS <| bl <| ok_C <| aE <| ae ⟨_, rfl, rfl, bl <| ok_C <| aE <| ae ⟨_, rfl, rfl, bl <| ok_C <| aE <| aa <| aE <| ae ⟨_, rfl, rfl, aa <| aE <| ae ⟨_, rfl, rfl, ae ⟨_, rfl, rfl, dw ⟨_, rfl, rfl, _, _, rfl, rfl, ?_⟩⟩⟩⟩⟩⟩
 show Ok _ (H ++ (noneL H.length).take 6) _
 refine af <| aD <| ok_not <| aR <| aC <| aa <| ad rfl <| aa <| aE <| aa <| aE <| ae ⟨_, rfl, rfl, aa <| aE <| ae ⟨_, rfl, rfl, aa <| aE <| ae ⟨_, rfl, rfl, aa <| aE <| ae ⟨_, rfl, rfl, ae ⟨_, rfl, rfl, ?_⟩⟩⟩⟩⟩
 refine aa <| aB <| aa <| ok_C <| aa <| aE <| aa <| ok_C <| aa <| ok_C <| ae ⟨_, rfl, rfl, ae ⟨lim2, ae ?_⟩⟩
 show Ok (dB [.ref (H.length + 0), .ref (H.length + 10), .tup [.str Wo.go.str, .ref (H.length + 11)]]) (H ++ noneL H.length) _
 refine (nT (none_inp (H := H)) none_ok (w := .go)).mono fun v H' q => ?_
 obtain ⟨rfl, hlen, keep⟩ := q
 have h0 := bA hf
 refine ⟨true, rfl, ag ⟨rfl, h H' _ ?_⟩⟩
 rw [keep 0 (by rw [List.length_append]; omega) fun j => by omega]
 exact bu hf
end
noncomputable def lv (i : Option Bool) : V := .int (lo i)
noncomputable def iv (i : Option Bool) : V := .int (ii i)
noncomputable def kv (p : Inr × Option Bool) : V := .tup [.int p.1.int, .int (lo p.2)]
noncomputable def wv (w : Wo) : V := .str w.str
noncomputable def allLo : List (Option Bool) := [some false, some true, none]
noncomputable def allKp : List (Inr × Option Bool) := [(.o false, some true), (.o true, some false), (.neg, some false), (.neg, some true), (.o false, none), (.o true, none), (.two, some false), (.o true, some true)]
noncomputable def tokL : List Tk := [.out false, .out true, .site .a, .site .b, .site .c, .beyond]
noncomputable def words1 : List Wo := [.call, .call, .defer, .lit, .lit, .slit, .scall, .fcall]
noncomputable def words2 : List Wo := [.vcall, .go, .vgo, .sdefer]
theorem nd_lo : allLo.Nodup := by simp [allLo]
theorem nd_kp : allKp.Nodup := List.Pairwise.of_map (S := (· ≠ ·)) (fun p : Inr × Option Bool => (p.1.int, lo p.2)) (fun a b h e => h (e ▸ rfl)) (by decide)
theorem nd_T : tokL.Nodup := by simp [tokL]
noncomputable def gR (n : Nat) (a c : Int) (lk : List (Option Bool)) (kk : List (Inr × Option Bool)) (t0 t1 : List (Option Bool)) (b0 b1 b2 b3 : List Tk) : MH :=
 spl a c :: [.list (allKp.map kv), .dict [(.p (.str "leaks"), .ref (n + 4)), (.p (.str "kept"), .ref (n + 5)), (.p (.str "told"), .ref (n + 10))] 3, .list (allLo.map lv), .list (lk.map lv), .list (kk.map kv), .list (allLo.map iv), .list (t0.map iv), .list (allLo.map iv), .list (t1.map iv), .list [.ref (n + 7), .ref (n + 9)],
  .list (tokL.map Tk.v), .list (b0.map Tk.v), .list (b1.map Tk.v), .list (b2.map Tk.v), .list (b3.map Tk.v), .list [.ref (n + 12), .ref (n + 13), .ref (n + 14), .ref (n + 15)], .list (words1.map wv), .list (words2.map wv), .list (words1.map wv ++ words2.map wv)]
noncomputable def drawB (n : Nat) : TB := { td := n + 2, lv := n + 4, kp := n + 5, tl := n + 10, t := fun b => n + (bif b then 9 else 7) }
section
variable {H L : MH} {P : V → MH → Prop} {T : Fl × Loc → MH → Prop} {loc : Loc}
theorem draw_inp {a c : Int} {lk : List (Option Bool)} {kk : List (Inr × Option Bool)} {t0 t1 : List (Option Bool)} {b0 b1 b2 b3 : List Tk} (n0 : b0.Nodup) (n1 : b1.Nodup) (n2 : b2.Nodup) (n3 : b3.Nodup) {r : Bool → Fin 8} :
  Inp (H ++ (gR H.length a c lk kk t0 t1 b0 b1 b2 b3 ++ [.list (opB r)])) (drawB H.length) ⟨lk, kk, fun b => bif b then t1 else t0⟩ (H.length + 16) (fun j => H.length + (12 + j.val)) (fun j => match j.val with
   | 0 => b0
   | 1 => b1
   | 2 => b2
   | _ => b3) r (H.length + 20) := {
 td := ⟨3, get_app (k := 2).trans rfl⟩
 lv := get_app (k := 4).trans rfl
 kp := get_app (k := 5).trans rfl
 tl := get_app (k := 10).trans rfl
 t := fun b => by cases b; exact get_app (k := 7).trans rfl; exact get_app (k := 9).trans rfl
 bg := get_app (k := 16).trans rfl
 gs := fin4 (get_app (k := 12).trans rfl) (get_app (k := 13).trans rfl) (get_app (k := 14).trans rfl) (get_app (k := 15).trans rfl)
 nd := fin4 n0 n1 n2 n3
 hr := get_app (k := 20).trans rfl
 inj := fun i j e => Fin.ext (Nat.add_left_cancel (Nat.add_left_cancel e))
 far := fun j => by
  have := j.isLt
  refine ⟨?_, ?_, ?_, fun b => ?_, ?_⟩
  ·exact gM (by decide)
  ·exact gM (by decide)
  ·exact gM (by decide)
  ·cases b <;> exact gM (by decide)
  ·omega }
theorem ok_law {is : List Int} (hf : H[0]? = some (.flist (is.map .int))) (hl : is.length ≤ 63) : Ok (oh [.ref 0]) H fun v ξ => v = .bool true := by
 refine a9 rfl <| ok_law1 hf fun H y hf => ?_
 have neg : ∀ (Q : V → MH → Prop) (loc : Loc) (L : MH), Q (.int (-1)) (H ++ L) → Ok (e1 mNeg (eC (.int 1)) loc) (H ++ L) Q := fun Q loc L q => dR (i := 1) <| ok_C ⟨rfl, q⟩
 have two : ∀ (a c : V) (L : MH) (Q : V → MH → Prop) (loc : Loc), Q (.tup [a, c]) (H ++ L) → Ok (av (ac (eC a) (ac (eC c) (lNil))) loc) (H ++ L) Q := fun a c L Q loc q => aB <| aa <| ok_C <| aa <| ok_C <| ae ⟨lim2, q⟩
 have twoN : ∀ (c : V) (L : MH) (Q : V → MH → Prop) (loc : Loc), Q (.tup [.int (-1), c]) (H ++ L) → Ok (av (ac (e1 mNeg (eC (.int 1))) (ac (eC c) (lNil))) loc) (H ++ L) Q := fun c L Q loc q => aB <| aa <| neg _ _ _ <| aa <| ok_C <| ae ⟨lim2, q⟩
 refine af <| aO <| aC <| aa <| ad rfl <| ae <| ok_spool hf hl fun a c => ⟨rfl, ?_⟩
 show Ok _ (H ++ (spl a c :: [])) _
 refine af <| aO <| aE <| aa <| two _ _ _ _ _ <| aa <| two _ _ _ _ _ <| aa <| twoN _ _ _ _ <| aa <| twoN _ _ _ _ <| aa <| two _ _ _ _ _ <| aa <| two _ _ _ _ _ <| aa <| two _ _ _ _ _ <| aa <| two _ _ _ _ _ <| ae ⟨_, rfl, rfl, rfl, ?_⟩
 show Ok _ (H ++ (spl a c :: [.list (allKp.map kv)])) _
 refine af <| aO <| dS <| bl <| ok_C <| aC <| aa <| ad rfl <| aa <| aE <| aa <| ok_C <| aa <| ok_C <| aa <| ok_C <| ae ⟨_, rfl, rfl, ae ?_⟩
 refine ew (L := [.list (allKp.map kv), .dict [] 0, .list (allLo.map lv)]) (k := 2) (val := lv) (xs := allLo) rfl rfl fun a c lk hlk => ?_
 show Ok _ (H ++ (spl a c :: [.list (allKp.map kv), .dict [] 0, .list (allLo.map lv), .list (lk.map lv)])) _
 refine bl <| ok_C <| aC <| aa <| ad rfl <| aa <| ad rfl <| ae ?_
 refine ew (L := [.list (allKp.map kv), .dict [] 0, .list (allLo.map lv), .list (lk.map lv)]) (k := 0) (val := kv) (xs := allKp) rfl rfl fun a c kk hkk => ?_
 refine dw ⟨_, rfl, rfl, _, _, rfl, rfl, ?_⟩
 show Ok _ (H ++ (spl a c :: [.list (allKp.map kv), .dict [(.p (.str "leaks"), .ref (H.length + 4)), (.p (.str "kept"), .ref (H.length + 5))] 2, .list (allLo.map lv), .list (lk.map lv), .list (kk.map kv)])) _
 refine af <| bi <| aE <| aa <| aC <| aa <| ad rfl <| aa <| aE <| aa <| ok_C <| aa <| ok_C <| aa <| neg _ _ _ <| ae ⟨_, rfl, rfl, ae ?_⟩
 refine ew (L := [.list (allKp.map kv), .dict [(.p (.str "leaks"), .ref (H.length + 4)), (.p (.str "kept"), .ref (H.length + 5))] 2, .list (allLo.map lv), .list (lk.map lv), .list (kk.map kv), .list (allLo.map iv)]) (k := 5) (val := iv) (xs := allLo) rfl rfl fun a c t0 ht0 => ?_
 refine aa <| aC <| aa <| ad rfl <| aa <| aE <| aa <| ok_C <| aa <| ok_C <| aa <| neg _ _ _ <| ae ⟨_, rfl, rfl, ae ?_⟩
 refine ew (L := [.list (allKp.map kv), .dict [(.p (.str "leaks"), .ref (H.length + 4)), (.p (.str "kept"), .ref (H.length + 5))] 2, .list (allLo.map lv), .list (lk.map lv), .list (kk.map kv), .list (allLo.map iv), .list (t0.map iv), .list (allLo.map iv)]) (k := 7) (val := iv) (xs := allLo) rfl rfl fun a c t1 ht1 => ?_
 refine ae ⟨_, rfl, rfl, ad rfl <| ok_C <| eQ (l := 2) rfl rfl rfl rfl ⟨rfl, ?_⟩⟩
 show Ok _ (H ++ (gR H.length a c lk kk t0 t1 [] [] [] []).take 11) _
 refine af <| aO <| aE <| aa <| two _ _ _ _ _ <| aa <| two _ _ _ _ _ <| aa <| two _ _ _ _ _ <| aa <| two _ _ _ _ _ <| aa <| two _ _ _ _ _ <| aa <| aB <| aa <| ok_C <| ae ⟨lim1, ae ⟨_, rfl, rfl, rfl, ?_⟩⟩
 show Ok _ (H ++ (spl a c :: ((gR H.length a c lk kk t0 t1 [] [] [] []).take 12).tail)) _
 refine af <| aO <| aE <| aa <| aC <| aa <| ad rfl <| aa <| ad rfl <| ae <| ew (L := ((gR H.length a c lk kk t0 t1 [] [] [] []).take 12).tail) (k := 10) (val := Tk.v) (xs := tokL) rfl rfl fun a c b0 h0 => ?_
 refine aa <| aC <| aa <| ad rfl <| aa <| ad rfl <| ae <| ew (L := ((gR H.length a c lk kk t0 t1 b0 [] [] []).take 13).tail) (k := 10) (val := Tk.v) (xs := tokL) rfl rfl fun a c b1 h1 => ?_
 refine aa <| aC <| aa <| ad rfl <| aa <| ad rfl <| ae <| ew (L := ((gR H.length a c lk kk t0 t1 b0 b1 [] []).take 14).tail) (k := 10) (val := Tk.v) (xs := tokL) rfl rfl fun a c b2 h2 => ?_
 refine aa <| aC <| aa <| ad rfl <| aa <| ad rfl <| ae <| ew (L := ((gR H.length a c lk kk t0 t1 b0 b1 b2 []).take 15).tail) (k := 10) (val := Tk.v) (xs := tokL) rfl rfl fun a c b3 h3 => ?_
 refine ae ⟨_, rfl, rfl, rfl, ?_⟩
 show Ok _ (H ++ (gR H.length a c lk kk t0 t1 b0 b1 b2 b3).take 17) _
 refine af <| aO <| aE <| aa <| ok_C <| aa <| ok_C <| aa <| ok_C <| aa <| ok_C <| aa <| ok_C <| aa <| ok_C <| aa <| ok_C <| aa <| ok_C <| ae ⟨_, rfl, rfl, rfl, ?_⟩
 show Ok _ (H ++ (gR H.length a c lk kk t0 t1 b0 b1 b2 b3).take 18) _
 refine af <| aO <| aC <| aa <| ad rfl <| aa <| ak <| ad rfl <| aE <| aa <| ok_C <| aa <| ok_C <| aa <| ok_C <| aa <| ok_C <| ae ⟨_, rfl, rfl, n7 (k := 17) (m := 18) (xs := words1.map wv) (ys := words2.map wv) rfl rfl rfl <| ae ?_⟩
 show Ok _ (H ++ (spl a c :: (gR H.length a c lk kk t0 t1 b0 b1 b2 b3).tail)) _
 refine okA_one (L := (gR H.length a c lk kk t0 t1 b0 b1 b2 b3).tail) (k := 18) (xs := words1.map wv ++ words2.map wv) rfl (by decide) rfl fun a' c' v hv => ⟨rfl, ?_⟩
 obtain ⟨w, rfl⟩ : ∃ w, v = wv w := by
  rcases List.mem_append.mp hv with hv | hv <;> obtain ⟨w, ξ, rfl⟩ := List.mem_map.mp hv <;> exact ⟨w, rfl⟩
 refine aK <| bZ <| aC <| aa <| ad rfl <| aa <| ad rfl <| aa <| aB <| aa <| ad rfl <| aa <| aE <| aa <| aC <| aa <| ad rfl <| aa <| ok_C <| ae <| jy (m := 6) (by decide) (by decide) fun a c k1 hk1 => ?_
 refine aa <| aC <| aa <| ad rfl <| aa <| ok_C <| ae <| jy (m := 6) (by decide) (by decide) fun a c k2 hk2 => ae ⟨_, rfl, rfl, ae ⟨lim2, ae ?_⟩⟩
 obtain ⟨r, hr⟩ : ∃ r : Bool → Fin 8, opB r = [.int (k1 : Int), .int (k2 : Int)] := ⟨fun b => bif b then ⟨k2, Nat.lt_trans hk2 (by decide)⟩ else ⟨k1, Nat.lt_trans hk1 (by decide)⟩, rfl⟩
 have inp := draw_inp (H := H) (a := a) (c := c) (lk := lk) (kk := kk) (t0 := t0) (t1 := t1) (h0.nodup nd_T) (h1.nodup nd_T) (h2.nodup nd_T) (h3.nodup nd_T) (r := r)
 rw [hr] at inp
 exact (nT inp ⟨hlk.nodup nd_lo, hkk.nodup nd_kp, fun b => by cases b; exact ht0.nodup nd_lo; exact ht1.nodup nd_lo⟩ (w := w)).mono fun v H' q => .inl ⟨_, rfl, q.1⟩
end
theorem plain (is : List Int) (hl : is.length ≤ 63) : ∃ H', oh [.ref 0] [.flist (is.map .int)] = some (.bool true, H') := by
 obtain ⟨v, H', e, rfl⟩ := ok_law (H := [.flist (is.map .int)]) (is := is) rfl hl
 exact ⟨H', e⟩
end Mine
theorem PySem.Challenge.cw_xw0047_01_holds : PySem.Challenge.rw_xw0047_01.Holds :=
  Mine.law_of Mine.plain
