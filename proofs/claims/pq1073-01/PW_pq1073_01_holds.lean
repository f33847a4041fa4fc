import PyProof.Rows.All
import Wide.All
import OpenK.AllK
import Wide.FinOn
import PyProof.TupleKey
import PyProof.Rows.EqMixed
import Lean
import PySem.Challenge.RW_pq1073_01
section
open PySem PySem.W PyProof.Rows
set_option Elab.async false
set_option maxRecDepth 100000
namespace Mine
/-- the n-th statement -/
def nthS : List Stmt → Nat → Stmt
  | s :: _, 0 => s
  | _ :: l, n + 1 => nthS l n
  | [], _ => .Pass default
def inCls : Stmt → List Stmt
  | .ClassDef _ _ _ b _ _ _ _ _ _ _ => b
  | _ => []
def topS (i : Nat) : Stmt := nthS PySem.Challenge.pw_pq1073_01.main.body i
def metS (j : Nat) : Stmt := nthS (inCls (topS 6)) j
/-- the function object that a def makes -/
def fnO (q : Str) (c : Addr) (m : Str) (i : Nat) : Stmt → Obj
  | .FunctionDef name args body _ _ _ scope _ _ _ => { cls := .type "function", data := .func { name, qualname := q, params := args, body := .stmts body, scope, globals := 3, closure := [], defaults := .none, kwdefaults := .none, pyModule := .str m i, code := .ref c } }
  | _ => { cls := .none }
def cdO (nm q : Str) (i l n r : Nat) (u v : Value) (z k : Nat) (n10 : Int) : Obj :=
  { cls := .type "code", data := .fields #[.str nm i, .str q (i + 1), .str "/claim/cut.py" (i + 2), .int l 0, .int n 0, .int 0 0, .int 0 0, .int 3 0, .ref r, .bool true, .int n10 0, .ref (r + 1), .none, u, v, .ref z, .int k 0, .int l 0, .str "/claim/cut.py" (k + 1)] }
def ent (P : Params) (s : Str) (i : Nat) (v : Value) : DictEntry := { hash := PyData.keyHash P s, key := .str s i, val := v }
noncomputable def mainA (P : Params) : Array DictEntry := #[ent P "__name__" 165 (.str "law_pq1073_01" 414),
  ent P "__doc__" 166 .none,
  ent P "__package__" 167 .none,
  ent P "__loader__" 168 (.builtin "__main__.__loader__#opaque"),
  ent P "__spec__" 169 .none,
  ent P "__annotations__" 170 (.ref 6),
  ent P "__builtins__" 171 (.ref 4),
  ent P "__file__" 173 (.str "/claim/cut.py" 172),
  ent P "__cached__" 174 .none,
  ent P "WallFault" 218 (.ref 31),
  ent P "Misused" 234 (.ref 44),
  ent P "tidy" 246 (.ref 53),
  ent P "Diagrams" 327 (.ref 105),
  ent P "parts_at" 338 (.ref 116),
  ent P "split" 344 (.ref 121),
  ent P "below" 354 (.ref 128),
  ent P "value_at" 365 (.ref 135),
  ent P "test" 381 (.ref 142),
  ent P "choose" 387 (.ref 147),
  ent P "both" 396 (.ref 154),
  ent P "either" 405 (.ref 161),
  ent P "negate" 413 (.ref 168),
  ent P "_law_drawn" 424 (.ref 175),
  ent P "_law_spans" 436 (.ref 182),
  ent P "_law_steps" 442 (.ref 187),
  ent P "_law_within" 452 (.ref 194),
  ent P "_law_tried" 465 (.ref 201),
  ent P "_law_node" 480 (.ref 208),
  ent P "_law_counts" 486 (.ref 213),
  ent P "_law_by_hand" 492 (.ref 218),
  ent P "_law_fixed" 498 (.ref 223),
  ent P "_law_plus" 504 (.ref 228),
  ent P "_law_is_told" 510 (.ref 233),
  ent P "_law_counted_away" 527 (.ref 240),
  ent P "law" 533 (.ref 245)]
noncomputable def clsA (P : Params) : Array DictEntry := #[ent P "__module__" 256 (.str "siftwall.diagram" 247),
  ent P "__firstlineno__" 260 (.int 21 259),
  ent P "__init__" 268 (.ref 67),
  ent P "kept" 276 (.ref 74),
  ent P "leaf" 284 (.ref 81),
  ent P "make" 298 (.ref 88),
  ent P "node" 306 (.ref 95),
  ent P "level" 315 (.ref 102),
  ent P "__static_attributes__" 320 (.ref 103),
  ent P "__dict__" 322 (.ref 106),
  ent P "__weakref__" 324 (.ref 107),
  ent P "__doc__" 325 .none]
noncomputable def mainO (P : Params) : Obj := { cls := .type "dict", data := .dict (mainA P) 35 }
noncomputable def clsD (P : Params) : Obj := { cls := .type "dict", data := .dict (clsA P) 4 }
def clsO : Obj :=
  { cls := .type "type", data := .cls { name := "Diagrams", bases := [.type "object"], mro := [.ref 105, .type "object"], ns := 104, qualname := "Diagrams" },
    slots := #[none, none, some (.str "Diagrams" 249), some (.str "Diagrams" 257), some (.builtin "object.__new__"), some (.bool true)] }
noncomputable def frK (P : Params) : Frag := [
  (3, mainO P),
  (52, cdO "tidy" "tidy" 237 11 1 47 (.ref 49) (.ref 50) 51 244 181),
  (53, fnO "tidy" 52 "siftwall.stores" 235 (topS 4)),
  (66, cdO "__init__" "Diagrams.__init__" 261 23 2 61 (.ref 63) (.ref 64) 65 266 181),
  (67, fnO "Diagrams.__init__" 66 "siftwall.diagram" 247 (metS 0)),
  (73, cdO "kept" "Diagrams.kept" 269 29 2 68 (.ref 70) (.ref 71) 72 274 181),
  (74, fnO "Diagrams.kept" 73 "siftwall.diagram" 247 (metS 1)),
  (80, cdO "leaf" "Diagrams.leaf" 277 35 2 75 (.ref 77) (.ref 78) 79 282 181),
  (81, fnO "Diagrams.leaf" 80 "siftwall.diagram" 247 (metS 2)),
  (87, cdO "make" "Diagrams.make" 285 38 3 82 (.ref 84) (.ref 85) 86 296 181),
  (88, fnO "Diagrams.make" 87 "siftwall.diagram" 247 (metS 3)),
  (94, cdO "node" "Diagrams.node" 299 54 2 89 (.ref 91) (.ref 92) 93 304 181),
  (95, fnO "Diagrams.node" 94 "siftwall.diagram" 247 (metS 4)),
  (101, cdO "level" "Diagrams.level" 307 57 2 96 (.ref 98) (.ref 99) 100 313 181),
  (102, fnO "Diagrams.level" 101 "siftwall.diagram" 247 (metS 5)),
  (104, clsD P),
  (105, clsO),
  (115, cdO "parts_at" "parts_at" 328 60 3 110 (.ref 112) (.ref 113) 114 336 181),
  (116, fnO "parts_at" 115 "siftwall.diagram" 247 (topS 7)),
  (120, cdO "split" "split" 339 65 2 117 .none .none 119 342 181),
  (121, fnO "split" 120 "siftwall.diagram" 247 (topS 8)),
  (127, cdO "below" "below" 345 79 2 122 (.ref 124) (.ref 125) 126 352 181),
  (128, fnO "below" 127 "siftwall.diagram" 247 (topS 9)),
  (134, cdO "value_at" "value_at" 355 84 3 129 (.ref 131) (.ref 132) 133 363 181),
  (135, fnO "value_at" 134 "siftwall.diagram" 247 (topS 10)),
  (141, cdO "test" "test" 366 89 5 136 (.ref 138) (.ref 139) 140 379 181),
  (142, fnO "test" 141 "siftwall.diagram" 247 (topS 11)),
  (146, cdO "choose" "choose" 382 104 4 143 .none .none 145 385 181),
  (147, fnO "choose" 146 "siftwall.diagram" 247 (topS 12)),
  (153, cdO "both" "both" 388 116 3 148 (.ref 150) (.ref 151) 152 394 181),
  (154, fnO "both" 153 "siftwall.diagram" 247 (topS 13)),
  (160, cdO "either" "either" 397 118 3 155 (.ref 157) (.ref 158) 159 403 181),
  (161, fnO "either" 160 "siftwall.diagram" 247 (topS 14)),
  (167, cdO "negate" "negate" 406 120 2 162 (.ref 164) (.ref 165) 166 411 181),
  (168, fnO "negate" 167 "siftwall.diagram" 247 (topS 15)),
  (174, cdO "_law_drawn" "_law_drawn" 416 123 1 169 (.ref 171) (.ref 172) 173 422 181),
  (175, fnO "_law_drawn" 174 "law_pq1073_01" 414 (topS 17)),
  (181, cdO "_law_spans" "_law_spans" 425 128 2 176 (.ref 178) (.ref 179) 180 434 181),
  (182, fnO "_law_spans" 181 "law_pq1073_01" 414 (topS 18)),
  (186, cdO "_law_steps" "_law_steps" 437 137 2 183 .none .none 185 440 181),
  (187, fnO "_law_steps" 186 "law_pq1073_01" 414 (topS 19)),
  (193, cdO "_law_within" "_law_within" 443 148 2 188 (.ref 190) (.ref 191) 192 450 181),
  (194, fnO "_law_within" 193 "law_pq1073_01" 414 (topS 20)),
  (200, cdO "_law_tried" "_law_tried" 453 153 2 195 (.ref 197) (.ref 198) 199 463 181),
  (201, fnO "_law_tried" 200 "law_pq1073_01" 414 (topS 21)),
  (207, cdO "_law_node" "_law_node" 466 167 2 202 (.ref 204) (.ref 205) 206 478 181),
  (208, fnO "_law_node" 207 "law_pq1073_01" 414 (topS 22)),
  (212, cdO "_law_counts" "_law_counts" 481 182 6 209 .none .none 211 484 181),
  (213, fnO "_law_counts" 212 "law_pq1073_01" 414 (topS 23)),
  (217, cdO "_law_by_hand" "_law_by_hand" 487 189 4 214 .none .none 216 490 181),
  (218, fnO "_law_by_hand" 217 "law_pq1073_01" 414 (topS 24)),
  (222, cdO "_law_fixed" "_law_fixed" 493 195 4 219 .none .none 221 496 181),
  (223, fnO "_law_fixed" 222 "law_pq1073_01" 414 (topS 25)),
  (227, cdO "_law_plus" "_law_plus" 499 201 3 224 .none .none 226 502 181),
  (228, fnO "_law_plus" 227 "law_pq1073_01" 414 (topS 26)),
  (232, cdO "_law_is_told" "_law_is_told" 505 206 4 229 .none .none 231 508 181),
  (233, fnO "_law_is_told" 232 "law_pq1073_01" 414 (topS 27)),
  (239, cdO "_law_counted_away" "_law_counted_away" 511 214 5 234 (.ref 236) (.ref 237) 238 525 181),
  (240, fnO "_law_counted_away" 239 "law_pq1073_01" 414 (topS 28)),
  (244, cdO "law" "law" 528 229 1 241 .none .none 243 531 181),
  (245, fnO "law" 244 "law_pq1073_01" 414 (topS 29))]
def kAs : List Addr := [3, 52, 53, 66, 67, 73, 74, 80, 81, 87, 88, 94, 95, 101, 102, 104, 105, 115, 116, 120, 121, 127, 128, 134, 135, 141, 142, 146, 147, 153, 154, 160, 161, 167, 168, 174, 175, 181, 182, 186, 187, 193, 194, 200, 201, 207, 208, 212, 213, 217, 218, 222, 223, 227, 228, 232, 233, 239, 240, 244, 245]
theorem kAs_eq : ∀ P, kAs = (frK P).map (·.1) := fun _ => by kernel_rfl
end Mine
end

section
open PySem PySem.W PyProof.Rows PySem.Calls
set_option Elab.async false
set_option maxRecDepth 100000
set_option linter.unusedVariables false
namespace Mine

/- several things at once: taken apart in one step -/
inductive A3 (p0 p1 p2 : Prop) : Prop
  | mk (h0 : p0) (h1 : p1) (h2 : p2)
inductive A4 (p0 p1 p2 p3 : Prop) : Prop
  | mk (h0 : p0) (h1 : p1) (h2 : p2) (h3 : p3)
inductive A5 (p0 p1 p2 p3 p4 : Prop) : Prop
  | mk (h0 : p0) (h1 : p1) (h2 : p2) (h3 : p3) (h4 : p4)
inductive A6 (p0 p1 p2 p3 p4 p5 : Prop) : Prop
  | mk (h0 : p0) (h1 : p1) (h2 : p2) (h3 : p3) (h4 : p4) (h5 : p5)
inductive A7 (p0 p1 p2 p3 p4 p5 p6 : Prop) : Prop
  | mk (h0 : p0) (h1 : p1) (h2 : p2) (h3 : p3) (h4 : p4) (h5 : p5) (h6 : p6)
inductive A8 (p0 p1 p2 p3 p4 p5 p6 p7 : Prop) : Prop
  | mk (h0 : p0) (h1 : p1) (h2 : p2) (h3 : p3) (h4 : p4) (h5 : p5) (h6 : p6) (h7 : p7)
inductive A9 (p0 p1 p2 p3 p4 p5 p6 p7 p8 : Prop) : Prop
  | mk (h0 : p0) (h1 : p1) (h2 : p2) (h3 : p3) (h4 : p4) (h5 : p5) (h6 : p6) (h7 : p7) (h8 : p8)
abbrev KM := Addr → Option Obj
def KLe (K K' : KM) : Prop := ∀ a o, K a = some o → K' a = some o
theorem KLe.refl (K : KM) : KLe K K := fun _ _ e => e
theorem KLe.trans {K K' K'' : KM} (x : KLe K K') (y : KLe K' K'') : KLe K K'' := fun a o e => y a o (x a o e)
def KM.put (K : KM) (a : Addr) (o : Obj) : KM := fun b => if b = a then some o else K b
theorem KM.put_self {K : KM} {a : Addr} {o : Obj} : K.put a o a = some o := if_pos rfl
theorem KM.put_ne {K : KM} {a b : Addr} {o : Obj} (h : b ≠ a) : K.put a o b = K b := if_neg h
theorem KM.le_put {K : KM} {a : Addr} {o : Obj} (h : K a = none) : KLe K (K.put a o) := fun b x e => by
  by_cases q : b = a
  · subst q; rw [h] at e; cases e
  · rw [KM.put_ne q]; exact e

inductive V where
  | none | bool (b : Bool) | int (i : Int) | str (s : Str) | tup (l : List V) | lst (l : List V)
  | dct (es : List (List Int × V)) | inst (c : Addr) (fs : List (Str × V)) | raw (v : Value)

def V.ints (l : List Int) : V := .tup (l.map .int)

abbrev iKind (w : World) : KeyKind Challenge.pw_pq1073_01 w Int := PySem.intKind Challenge.pw_pq1073_01 w

mutual
inductive Rep (w : World) (K : KM) : V → Value → Prop
  | none : Rep w K .none .none
  | bool (b : Bool) : Rep w K (.bool b) (.bool b)
  | int (i : Int) (t : Tok) : Rep w K (.int i) (.int i t)
  | str (s : Str) (t : Tok) : Rep w K (.str s) (.str s t)
  | tup {a : Addr} {o : Obj} {ws : List Value} {n : Nat} {l : List V} (h : K a = some o) (hc : o.cls = .type "tuple") (hd : o.data = .seq ws.toArray n) (hl : Reps w K l ws) : Rep w K (.tup l) (.ref a)
  | lst {a : Addr} {o : Obj} {ws : List Value} {n : Nat} {l : List V} (h : K a = some o) (hc : o.cls = .type "list") (hd : o.data = .seq ws.toArray n) (hl : Reps w K l ws) : Rep w K (.lst l) (.ref a)
  | dct {a : Addr} {o : Obj} {ees : Array DictEntry} {n : Nat} {es : List (List Int × V)} {xs : List (List Int × Addr × Value)} (h1 : a ≠ sysModules) (h : K a = some o) (hc : o.ExactDict) (hd : o.data = .dict ees n)
      (he : ees.toList = xs.map (entryOfKey (tupleKind (iKind w)))) (hn : (xs.map (·.1)).Nodup) (hx : xs.map (·.1) = es.map (·.1))
      (hk : Reps w K (es.map fun e => V.ints e.1) (xs.map fun x => .ref x.2.1)) (hv : Reps w K (es.map (·.2)) (xs.map (·.2.2))) : Rep w K (.dct es) (.ref a)
  | inst {x dx c : Addr} {des : List DictEntry} {n : Nat} {fs : List (Str × V)} {vf : Str → Value} (h : K x = some (instObj c dx)) (hd : K dx = some (dictOf des n))
      (hl : ∀ nm u, fs.lookup nm = some u → getL nm des = some (some (vf nm)) ∧ handedIn (vf nm) = true) (hr : ∀ nm u, fs.lookup nm = some u → Rep w K u (vf nm))
      (hn : ∀ nm, fs.lookup nm = Option.none → getL nm des = some Option.none) : Rep w K (.inst c fs) (.ref x)
  | raw (v : Value) : Rep w K (.raw v) v
inductive Reps (w : World) (K : KM) : List V → List Value → Prop
  | nil : Reps w K [] []
  | cons {u : V} {v : Value} {l : List V} {ws : List Value} (h : Rep w K u v) (t : Reps w K l ws) : Reps w K (u :: l) (v :: ws)
end

mutual
theorem Rep.mono {w : World} {K K' : KM} (le : KLe K K') {u : V} {v : Value} : Rep w K u v → Rep w K' u v
  | .none => .none
  | .bool b => .bool b
  | .int i t => .int i t
  | .str s t => .str s t
  | .tup h hc hd hl => .tup (le _ _ h) hc hd (Reps.mono le hl)
  | .lst h hc hd hl => .lst (le _ _ h) hc hd (Reps.mono le hl)
  | .dct h1 h hc hd he hn hx hk hv => .dct h1 (le _ _ h) hc hd he hn hx (Reps.mono le hk) (Reps.mono le hv)
  | .inst h hd hl hr hn => .inst (le _ _ h) (le _ _ hd) hl (fun nm u e => Rep.mono le (hr nm u e)) hn
  | .raw v => .raw v
theorem Reps.mono {w : World} {K K' : KM} (le : KLe K K') {us : List V} {vs : List Value} : Reps w K us vs → Reps w K' us vs
  | .nil => .nil
  | .cons h t => .cons (Rep.mono le h) (Reps.mono le t)
end

/- what a representation says, case by case: cheaper than taking it apart on the spot -/
inductive TupAt' (w : World) (K : KM) (ty : String) (l : List V) (a : Addr) : Prop
  | mk (o : Obj) (ws : List Value) (n : Nat) (h : K a = some o) (hc : o.cls = .type ty) (hd : o.data = .seq ws.toArray n) (hl : Reps w K l ws)
inductive TupIs (w : World) (K : KM) (ty : String) (l : List V) (v : Value) : Prop
  | mk (a : Addr) (o : Obj) (ws : List Value) (n : Nat) (e : v = .ref a) (h : K a = some o) (hc : o.cls = .type ty) (hd : o.data = .seq ws.toArray n) (hl : Reps w K l ws)
inductive IntIs (i : Int) (v : Value) : Prop
  | mk (t : Tok) (e : v = .int i t)
inductive StrIs (x : Str) (v : Value) : Prop
  | mk (t : Tok) (e : v = .str x t)
inductive ConsIs (w : World) (K : KM) (u : V) (l : List V) (vs : List Value) : Prop
  | mk (v : Value) (ws : List Value) (e : vs = v :: ws) (h : Rep w K u v) (t : Reps w K l ws)
theorem Rep.tup' {w : World} {K : KM} {l : List V} {v : Value} (r : Rep w K (.tup l) v) : TupIs w K "tuple" l v := by cases r with | tup h hc hd hl => exact ⟨_, _, _, _, rfl, h, hc, hd, hl⟩
theorem Rep.lst' {w : World} {K : KM} {l : List V} {v : Value} (r : Rep w K (.lst l) v) : TupIs w K "list" l v := by cases r with | lst h hc hd hl => exact ⟨_, _, _, _, rfl, h, hc, hd, hl⟩
theorem Rep.tupA {w : World} {K : KM} {l : List V} {a : Addr} (r : Rep w K (.tup l) (.ref a)) : TupAt' w K "tuple" l a := by cases r with | tup h hc hd hl => exact ⟨_, _, _, h, hc, hd, hl⟩
theorem Rep.lstA {w : World} {K : KM} {l : List V} {a : Addr} (r : Rep w K (.lst l) (.ref a)) : TupAt' w K "list" l a := by cases r with | lst h hc hd hl => exact ⟨_, _, _, h, hc, hd, hl⟩
theorem Rep.int' {w : World} {K : KM} {i : Int} {v : Value} (r : Rep w K (.int i) v) : IntIs i v := by cases r; exact ⟨_, rfl⟩
theorem Rep.str' {w : World} {K : KM} {x : Str} {v : Value} (r : Rep w K (.str x) v) : StrIs x v := by cases r; exact ⟨_, rfl⟩
theorem Rep.bool' {w : World} {K : KM} {b : Bool} {v : Value} (r : Rep w K (.bool b) v) : v = .bool b := by cases r; rfl
theorem Rep.raw' {w : World} {K : KM} {x v : Value} (r : Rep w K (.raw x) v) : v = x := by cases r; rfl
theorem Reps.nil' {w : World} {K : KM} {vs : List Value} (r : Reps w K [] vs) : vs = [] := by cases r; rfl
theorem Reps.cons' {w : World} {K : KM} {u : V} {l : List V} {vs : List Value} (r : Reps w K (u :: l) vs) : ConsIs w K u l vs := by cases r with | cons h t => exact ⟨_, _, rfl, h, t⟩
inductive TwoIs (w : World) (K : KM) (u u' : V) (vs : List Value) : Prop
  | mk (v v' : Value) (e : vs = [v, v']) (h : Rep w K u v) (h' : Rep w K u' v')
theorem Reps.two' {w : World} {K : KM} {u u' : V} {vs : List Value} (r : Reps w K [u, u'] vs) : TwoIs w K u u' vs := by
  obtain ⟨v, ws, rfl, h, t⟩ := r.cons'
  obtain ⟨v', ws', rfl, h', t'⟩ := t.cons'
  cases t'.nil'
  exact ⟨v, v', rfl, h, h'⟩

theorem Reps.length {w : World} {K : KM} {us : List V} {vs : List Value} (h : Reps w K us vs) : us.length = vs.length := by
  induction us generalizing vs with
  | nil => rw [h.nil']; rfl
  | cons u us ih => obtain ⟨v, ws, rfl, h1, t1⟩ := h.cons'; exact congrArg Nat.succ (ih t1)
theorem Reps.get {w : World} {K : KM} {us : List V} {vs : List Value} (h : Reps w K us vs) {i : Nat} {u : V} (e : us[i]? = some u) : ∃ v, vs[i]? = some v ∧ Rep w K u v := by
  induction us generalizing vs i with
  | nil => cases e
  | cons x us ih =>
    obtain ⟨v, ws, rfl, h1, t1⟩ := h.cons'
    cases i with
    | zero => cases e; exact ⟨v, rfl, h1⟩
    | succ i => exact ih t1 (i := i) e
theorem Reps.append {w : World} {K : KM} {us us' : List V} {vs vs' : List Value} (h : Reps w K us vs) (h' : Reps w K us' vs') : Reps w K (us ++ us') (vs ++ vs') := by
  induction us generalizing vs with
  | nil => rw [h.nil']; exact h'
  | cons x us ih => obtain ⟨v, ws, rfl, h1, t1⟩ := h.cons'; exact .cons h1 (ih t1)
theorem Reps.set {w : World} {K : KM} {us : List V} {vs : List Value} (h : Reps w K us vs) {u : V} {v : Value} (r : Rep w K u v) (i : Nat) : Reps w K (us.set i u) (vs.set i v) := by
  induction us generalizing vs i with
  | nil => rw [h.nil']; exact .nil
  | cons x us ih =>
    obtain ⟨v', ws, rfl, h1, t1⟩ := h.cons'
    cases i with
    | zero => exact .cons r t1
    | succ i => exact .cons h1 (ih t1 i)

inductive Node where
  | leaf (v : Int) | br (x : Int) (ps : List (Int × Int))
  deriving DecidableEq

def V.pair (p : Int × Int) : V := .tup [.int p.1, .int p.2]
def Node.toV : Node → V
  | .leaf v => .tup [.str "leaf", .int v]
  | .br x ps => .tup [.int x, .tup (ps.map V.pair)]

inductive AO where
  | list (l : List V)
  | dictI (es : List (List Int × V))
  | dictN (es : List (Node × V))
  | inst (c dx : Addr)
  | idict (fs : List (Str × V))
end Mine
end

section
open PySem PySem.W PyProof.Rows PySem.Calls
set_option Elab.async false
set_option maxRecDepth 100000
set_option linter.unusedVariables false
namespace Mine
section
variable {w : World}
abbrev MM (w : World) : Model := model Challenge.pw_pq1073_01 w


theorem toArr_inj {a b : List Value} (e : a.toArray = b.toArray) : a = b := congrArg Array.toList e
def HSpec (w : World) (h : Heap) (k : Nat) (v : Value) (i : Int) (n : Nat) : Prop :=
  ∀ (A : Around) (E : Value → Shared → Prop) (s : Shared) (Q : Int → Shared → Prop), s.heap = h → A.units + k < cLine → Q i { s with toks := s.toks + n } → wpAny (MM w) A (PySem.pyHash v) Q E s
def ESpec (w : World) (h : Heap) (k : Nat) (u v : Value) (b : Bool) : Prop :=
  ∀ (A : Around) (E : Value → Shared → Prop) (s : Shared) (Q : Bool → Shared → Prop), s.heap = h → A.units + k < cLine → Q b s → wpAny (MM w) A (PySem.eqBool u v) Q E s
def QSpec (w : World) (h : Heap) (n : Nat) (v : Value) : Prop :=
  ∀ (A : Around) (E : Value → Shared → Prop) (s : Shared) (Q : Bool → Shared → Prop), s.heap = h → Q true s → wpAny (MM w) A (eqIsQuiet n v) Q E s

inductive HSpecs (w : World) (h : Heap) (k : Nat) : List Value → List Int → Nat → Prop
  | nil : HSpecs w h k [] [] 0
  | cons {v vs i is n m} : HSpec w h k v i n → HSpecs w h k vs is m → HSpecs w h k (v :: vs) (i :: is) (n + m)
inductive EqL (w : World) (h : Heap) (k : Nat) : List Value → List Value → Bool → Prop
  | nil : EqL w h k [] [] true
  | left {v vs} : EqL w h k (v :: vs) [] false
  | right {v vs} : EqL w h k [] (v :: vs) false
  | same {u us v vs b} : ESpec w h k u v true → EqL w h k us vs b → EqL w h k (u :: us) (v :: vs) b
  | diff {u us v vs} : ESpec w h k u v false → EqL w h k (u :: us) (v :: vs) false

def TupAt (h : Heap) (a : Addr) (vs : List Value) : Prop := ∃ o n, h.get? a = some o ∧ o.cls = .type "tuple" ∧ o.data = .seq vs.toArray n
theorem TupAt.typeIs {s : Shared} {a : Addr} {vs : List Value} (x : TupAt s.heap a vs) : s.TypeIs (.ref a) "tuple" := let ⟨o, _, ho, hc, _⟩ := x; ⟨o, ho, hc⟩

theorem hspec_tup {h : Heap} {a : Addr} {vs : List Value} {is : List Int} {n k : Nat} (ht : TupAt h a vs) (hs : HSpecs w h k vs is n) :
    HSpec w h (k + 1) (.ref a) (reduceHash (Builtin.Tuple.tupleHashOf is)) (n + 1) := by
  intro A E s Q hh hu hQ
  subst hh
  have hT := ht.typeIs
  obtain ⟨o, nn, ho, _, hd⟩ := ht
  have hu1 : A.units < cLine := by (first | lia | omega)
  unfold pyHash
  first | unfold pyHashByItsType | skip
  first | refine wpAny_bind (wpAny_cRoomFor_or (.inr hu1) ?_) | skip
  refine wpAny_bind (wpAny_specialOf hT F.slot_tuple_hash.lookup ?_)
  show wpAny _ _ (if (some (Value.builtin "tuple.__hash__") == some Value.none) = true then _ else _) Q E s
  rw [if_neg (by rw [beq_builtin_none]; exact Bool.false_ne_true)]
  refine wpAny_bind (wpAny_specialOf hT F.slot_tuple_hash.lookup ?_)
  show wpAny _ _ (callSpecialIfBoundUnlessNone? (.ref a) "__hash__" _ >>= _) Q E s
  refine wpAny_bind (wpAny_callSpecialIfBoundUnlessNone?_slot hT F.slot_tuple_hash (wpAny_call_entry F.slot_tuple_hash hT F.entry_tuple_hash ?_ (F.args_tuple_hash_1 _)))
  show wpAny _ _ (Builtin.Tuple.tupleItemsOf (.ref a) >>= _) _ _ s
  refine wpAny_bind (wpAny_tupleItemsOf ho hd ?_)
  refine wpAny_bind ?_
  rw [← Array.forIn_toList]
  refine wpAny_forIn_list _
    (fun rest (b : Array Int) s' => ∃ done left m m', is = done ++ left ∧ HSpecs w s.heap k rest left m' ∧ b.toList = done ∧ m + m' = n ∧ s' = { s with toks := s.toks + m })
    _ ?_ ?_ _ _ ⟨[], is, 0, n, rfl, hs, rfl, by (first | lia | omega), rfl⟩
  · rintro x rest b s' ⟨done, left, m, m', rfl, hl, hb, hm, rfl⟩
    cases hl with
    | @cons _ _ i is' n1 m1 h1 hl' =>
      refine wpAny_bind (h1 _ _ _ _ rfl (by show A.units + 1 + k < cLine; (first | lia | omega)) ?_)
      first
        | exact wpAny_pure ⟨done ++ [i], is', m + n1, m1, by simp, hl', by simp [hb], by (first | lia | omega), by simp [Nat.add_assoc]⟩
        | exact wpAny_bind (wpAny_pure (wpAny_pure ⟨done ++ [i], is', m + n1, m1, by simp, hl', by simp [hb], by (first | lia | omega), by simp [Nat.add_assoc]⟩))
  · rintro b s' ⟨done, left, m, m', rfl, hl, hb, hm, rfl⟩
    cases hl
    simp only [List.append_nil] at hQ
    have hm' : m = n := by (first | lia | omega)
    subst hm'
    show wpAny _ _ (retInt (Builtin.Tuple.tupleHashOf b.toList)) _ _ _
    rw [hb]
    refine wpAny_ret_mkInt ?_
    show wpAny _ _ (if (decide (-(2 : Int) ^ 63 ≤ Builtin.Tuple.tupleHashOf done) && decide (Builtin.Tuple.tupleHashOf done < 2 ^ 63)) = true then _ else _) Q E _
    unfold reduceHash at hQ
    by_cases hr : (decide (-(2 : Int) ^ 63 ≤ Builtin.Tuple.tupleHashOf done) && decide (Builtin.Tuple.tupleHashOf done < 2 ^ 63)) = true
    · rw [if_pos hr]
      rw [if_pos hr] at hQ
      exact wpAny_pure (by simpa [Nat.add_assoc] using hQ)
    · rw [if_neg hr]
      rw [if_neg hr] at hQ
      exact wpAny_bind (wpAny_rule (wpAny_pure (by simpa [Nat.add_assoc] using hQ)))

theorem EqL.sizes {h : Heap} {k : Nat} {us vs : List Value} {b : Bool} (e : EqL w h k us vs b) : us = [] ∨ vs = [] → b = (us.length == vs.length) := by
  intro q
  cases e with
  | nil => rfl
  | left => rfl
  | right => rfl
  | same h1 h2 => rcases q with q | q <;> cases q
  | diff h1 => rcases q with q | q <;> cases q

theorem tup_eq_tree {A : Around} {E : Value → Shared → Prop} {s : Shared} {k : Nat} {xs ys : List Value} {a b : Addr} {r : Bool} {P : Fin → Shared → Prop} (hx : TupAt s.heap a xs) (hy : TupAt s.heap b ys) (he : EqL w s.heap k xs ys r)
    (hu : A.units + k < cLine) (h : P (.done (.ret (.bool r))) s) : wpAny (MM w) A (Builtin.«tuple.__eq__» ⟨[.ref a, .ref b], []⟩) P E s := by
  have hTb := hy.typeIs
  obtain ⟨oa, na, hoa, _, hda⟩ := hx
  obtain ⟨ob, nb, hob, _, hdb⟩ := hy
  show wpAny _ _ (isInstance (.ref b) (.type "tuple") >>= _) _ _ s
  refine wpAny_bind (wpAny_isInstance hTb isSubtype_tuple_tuple ?_)
  simp only [Bool.not_true, Bool.false_eq_true, if_false]
  refine wpAny_bind (wpAny_tupleItemsOf hoa hda ?_)
  refine wpAny_bind (wpAny_tupleItemsOf hob hdb ?_)
  refine wpAny_bind ?_
  refine wpAny_forIn_list _
    (fun rest q s' => q.1 = none ∧ s' = s ∧ ∃ xs' ys', rest = List.zip xs' ys' ∧ EqL w s.heap k xs' ys' r ∧ (xs'.length == ys'.length) = (xs.toArray.size == ys.toArray.size))
    _ ?_ ?_ _ _ ⟨rfl, rfl, xs, ys, rfl, he, by simp⟩
  · rintro ⟨u, v⟩ rest q s' ⟨hq, rfl, xs', ys', hz, he', hlen⟩
    cases he' with
    | nil => simp at hz
    | left => simp at hz
    | right => simp at hz
    | @same u' us v' vs b' h1 h2 =>
      simp only [List.zip_cons_cons, List.cons.injEq, Prod.mk.injEq] at hz
      obtain ⟨⟨rfl, rfl⟩, rfl⟩ := hz
      refine wpAny_bind (h1 _ _ _ _ rfl hu ?_)
      simp only [Bool.not_true, Bool.false_eq_true, if_false]
      exact wpAny_pure ⟨rfl, rfl, us, vs, rfl, h2, by simpa using hlen⟩
    | @diff u' us v' vs h1 =>
      simp only [List.zip_cons_cons, List.cons.injEq, Prod.mk.injEq] at hz
      obtain ⟨⟨rfl, rfl⟩, rfl⟩ := hz
      refine wpAny_bind (h1 _ _ _ _ rfl hu ?_)
      simp only [Bool.not_false, if_true]
      exact wpAny_bind (wpAny_pure (wpAny_pure (wpAny_pure h)))
  · rintro ⟨q1, q2⟩ s' ⟨hq, rfl, xs', ys', hz, he', hlen⟩
    simp only at hq
    subst hq
    refine wpAny_pure ?_
    have hfin : r = (xs.toArray.size == ys.toArray.size) := by
      rw [← hlen]
      refine he'.sizes ?_
      cases xs' with
      | nil => exact .inl rfl
      | cons x xs'' => cases ys' with
        | nil => exact .inr rfl
        | cons y ys'' => simp at hz
    show P (.done (.ret (.bool (xs.toArray.size == ys.toArray.size)))) s'
    rw [← hfin]; exact h

theorem espec_tup {h : Heap} {k : Nat} {xs ys : List Value} {a b : Addr} {r : Bool} (hx : TupAt h a xs) (hy : TupAt h b ys) (hab : a = b → r = true) (he : EqL w h k xs ys r) :
    ESpec w h (k + 1) (.ref a) (.ref b) r := by
  intro A E s Q hh hu hQ
  subst hh
  unfold eqBool
  try with_reducible refine wpAny_holding ?_
  show wpAny _ _ (if (Value.ref a == Value.ref b) = true then _ else _) Q E s
  by_cases q : (Value.ref a == Value.ref b) = true
  · rw [if_pos q]
    have e : a = b := by have := eq_of_beq q; injection this
    rw [hab e] at hQ
    exact wpAny_bind (wpAny_rule (wpAny_pure hQ))
  · rw [if_neg q]
    exact wpAny_bind (wpAny_richCompare_same_room (op := .Eq) hx.typeIs hy.typeIs F.slot_tuple_eq
      (wpAny_call_entry F.slot_tuple_eq hx.typeIs F.entry_tuple_eq (tup_eq_tree hx hy he (by show A.units + 1 + k < cLine; (first | lia | omega)) ⟨_, rfl, (fun e => nomatch e), wpAny_truthy_bool hQ⟩) (F.args_tuple_eq_2 _ _)) (by (first | lia | omega)))

theorem qspec_tup {h : Heap} {a : Addr} {vs : List Value} {n : Nat} (ht : TupAt h a vs) (hq : ∀ v ∈ vs, QSpec w h n v) : QSpec w h (n + 1) (.ref a) := by
  intro A E s Q hh hQ
  subst hh
  have hT := ht.typeIs
  obtain ⟨o, nn, ho, _, hd⟩ := ht
  unfold eqIsQuiet
  refine wpAny_bind (wpAny_specialOf hT F.slot_tuple_eq.lookup ?_)
  show wpAny _ _ (isInstance (.ref a) (.type "tuple") >>= _) _ _ s
  refine wpAny_bind (wpAny_isInstance hT isSubtype_tuple_tuple ?_)
  simp only [Bool.not_true, Bool.false_eq_true, if_false]
  refine wpAny_bind (wpAny_seqItems ho hd ?_)
  refine wpAny_bind ?_
  show wpAny _ _ (forIn vs.toArray _ _) _ _ s
  rw [← Array.forIn_toList]
  refine wpAny_forIn_list _ (fun rest r s' => r.1 = none ∧ s' = s ∧ ∀ v ∈ rest, QSpec w s.heap n v) _ ?_ ?_ _ _ ⟨rfl, rfl, fun v hv => hq v (by simpa using hv)⟩
  · rintro v rest r s' ⟨hr, rfl, hall⟩
    refine wpAny_bind (hall v List.mem_cons_self _ _ _ _ rfl ?_)
    simp only [Bool.not_true, Bool.false_eq_true, if_false]
    exact wpAny_pure ⟨rfl, rfl, fun u hu' => hall u (List.mem_cons_of_mem _ hu')⟩
  · rintro ⟨r1, r2⟩ s' ⟨hr, rfl, _⟩
    simp only at hr
    subst hr
    exact wpAny_pure hQ

theorem qspec_int {h : Heap} {n : Nat} {i : Int} {t : Tok} : QSpec w h n (.int i t) := fun A E s Q _ hQ => by
  rw [eqIsQuiet_byValue n (v := .int i t) rfl]; exact wpAny_pure hQ
theorem qspec_str {h : Heap} {n : Nat} {x : Str} {t : Tok} : QSpec w h n (.str x t) := fun A E s Q _ hQ => by
  rw [eqIsQuiet_byValue n (v := .str x t) rfl]; exact wpAny_pure hQ
theorem hspec_int {h : Heap} {k : Nat} {i : Int} {t : Tok} : HSpec w h k (.int i t) ((iKind w).hash i) 1 := fun A E s Q _ _ hQ => (iKind w).pyHash (intKind_is _ _ i t) hQ
theorem hspec_str {h : Heap} {k : Nat} {x : Str} {t : Tok} : HSpec w h k (.str x t) ((strKind Challenge.pw_pq1073_01 w).hash x) 1 := fun A E s Q _ _ hQ => (strKind Challenge.pw_pq1073_01 w).pyHash (strKind_is _ _ x t) hQ
theorem espec_int {h : Heap} {k : Nat} {i j : Int} {t u : Tok} : ESpec w h k (.int i t) (.int j u) (decide (i = j)) := fun A E s Q _ _ hQ => (iKind w).eqBool (intKind_is _ _ i t) (intKind_is _ _ j u) hQ
theorem espec_str {h : Heap} {k : Nat} {x y : Str} {t u : Tok} : ESpec w h k (.str x t) (.str y u) (decide (x = y)) := fun A E s Q _ _ hQ => (strKind Challenge.pw_pq1073_01 w).eqBool (strKind_is _ _ x t) (strKind_is _ _ y u) hQ
theorem espec_str_int {h : Heap} {k : Nat} {x : Str} {j : Int} {t u : Tok} : ESpec w h k (.str x t) (.int j u) false := fun A E s Q _ _ hQ => by
  unfold eqBool
  try with_reducible refine wpAny_holding ?_
  show wpAny _ _ (if (Value.str x t == Value.int j u) = true then _ else _) Q E s
  rw [if_neg (by intro e; have := eq_of_beq e; cases this)]
  exact wpAny_bind (EqMixed.eq_str_int (wpAny_truthy_bool hQ))
theorem espec_int_str {h : Heap} {k : Nat} {x : Str} {j : Int} {t u : Tok} : ESpec w h k (.int j u) (.str x t) false := fun A E s Q _ _ hQ => by
  unfold eqBool
  try with_reducible refine wpAny_holding ?_
  show wpAny _ _ (if (Value.int j u == Value.str x t) = true then _ else _) Q E s
  rw [if_neg (by intro e; have := eq_of_beq e; cases this)]
  exact wpAny_bind (EqMixed.eq_int_str (wpAny_truthy_bool hQ))
end
end Mine
namespace Mine
section
variable {w : World}
abbrev sHash (w : World) (x : Str) : Int := (strKind Challenge.pw_pq1073_01 w).hash x
def pairHash (w : World) (p : Int × Int) : Int := reduceHash (Builtin.Tuple.tupleHashOf [(iKind w).hash p.1, (iKind w).hash p.2])
def nodeHash (w : World) : Node → Int
  | .leaf v => reduceHash (Builtin.Tuple.tupleHashOf [sHash w "leaf", (iKind w).hash v])
  | .br x ps => reduceHash (Builtin.Tuple.tupleHashOf [(iKind w).hash x, reduceHash (Builtin.Tuple.tupleHashOf (ps.map (pairHash w)))])
def nodeDraws : Node → Nat
  | .leaf _ => 3
  | .br _ ps => 1 + (3 * ps.length + 1 + 0) + 1

theorem seq_inj {K : KM} {a : Addr} {o o' : Obj} {ws ws' : List Value} {n n' : Nat} (h : K a = some o) (h' : K a = some o') (hd : o.data = .seq ws.toArray n) (hd' : o'.data = .seq ws'.toArray n') : ws = ws' := by
  rw [h] at h'; cases h'; rw [hd] at hd'; injection hd' with e; exact toArr_inj e
inductive PairIs (K : KM) (p : Int × Int) (v : Value) : Prop
  | mk (a : Addr) (o : Obj) (n : Nat) (t u : Tok) (e : v = .ref a) (h : K a = some o) (hc : o.cls = .type "tuple") (hd : o.data = .seq [.int p.1 t, .int p.2 u].toArray n)
theorem rep_pair {K : KM} {p : Int × Int} {v : Value} (x : Rep w K (.pair p) v) : PairIs K p v := by
  obtain ⟨a, o, ws, n, rfl, h, hc, hd, hl⟩ := Rep.tup' x
  obtain ⟨v, v', rfl, r, r'⟩ := hl.two'
  obtain ⟨t, rfl⟩ := r.int'
  obtain ⟨u, rfl⟩ := r'.int'
  exact ⟨a, o, n, t, u, rfl, h, hc, hd⟩
theorem two_inj {α : Type} {a b a' b' : α} (e : [a, b] = [a', b']) : a = a' ∧ b = b' := ⟨(List.cons.inj e).1, (List.cons.inj (List.cons.inj e).2).1⟩
theorem pair_inj {K : KM} {p q : Int × Int} {v : Value} (x : Rep w K (.pair p) v) (y : Rep w K (.pair q) v) : p = q := by
  obtain ⟨a, o, n, t, u, rfl, h, hc, hd⟩ := rep_pair x
  obtain ⟨a', o', n', t', u', e, h', hc', hd'⟩ := rep_pair y
  cases e
  have e := two_inj (seq_inj h h' hd hd')
  exact Prod.ext (Value.int.inj e.1).1 (Value.int.inj e.2).1
theorem pairs_inj {K : KM} {vs : List Value} : ∀ {ps qs : List (Int × Int)}, Reps w K (ps.map .pair) vs → Reps w K (qs.map .pair) vs → ps = qs := by
  intro ps
  induction ps generalizing vs with
  | nil =>
    intro qs x y
    cases qs with
    | nil => rfl
    | cons q qs => obtain ⟨v, ws, rfl, h, t⟩ := Reps.cons' y; cases Reps.nil' x
  | cons p ps ih =>
    intro qs x y
    obtain ⟨v, ws, rfl, h, t⟩ := Reps.cons' x
    cases qs with
    | nil => cases Reps.nil' y
    | cons q qs =>
      obtain ⟨v', ws', e, h', t'⟩ := Reps.cons' y
      cases e
      rw [pair_inj h h', ih t t']
inductive LeafAt (K : KM) (i : Int) (a : Addr) : Prop
  | mk (o : Obj) (n : Nat) (t u : Tok) (h : K a = some o) (hc : o.cls = .type "tuple") (hd : o.data = .seq [.str "leaf" t, .int i u].toArray n)
inductive BrAt (w : World) (K : KM) (x : Int) (ps : List (Int × Int)) (a : Addr) : Prop
  | mk (o : Obj) (n : Nat) (t : Tok) (b : Addr) (o' : Obj) (ws : List Value) (n' : Nat) (h : K a = some o) (hc : o.cls = .type "tuple") (hd : o.data = .seq [.int x t, .ref b].toArray n)
      (k : K b = some o') (kc : o'.cls = .type "tuple") (kd : o'.data = .seq ws.toArray n') (kl : Reps w K (ps.map .pair) ws)
theorem leaf_at {K : KM} {i : Int} {a : Addr} (x : Rep w K (Node.leaf i).toV (.ref a)) : LeafAt K i a := by
  obtain ⟨o, ws, n, h, hc, hd, hl⟩ := Rep.tupA x
  obtain ⟨v, v', rfl, r, r'⟩ := hl.two'
  obtain ⟨t, rfl⟩ := r.str'
  obtain ⟨u, rfl⟩ := r'.int'
  exact ⟨o, n, t, u, h, hc, hd⟩
theorem br_at {K : KM} {i : Int} {ps : List (Int × Int)} {a : Addr} (x : Rep w K (Node.br i ps).toV (.ref a)) : BrAt w K i ps a := by
  obtain ⟨o, ws, n, h, hc, hd, hl⟩ := Rep.tupA x
  obtain ⟨v, v', rfl, r, r'⟩ := hl.two'
  obtain ⟨t, rfl⟩ := r.int'
  obtain ⟨b, o', ws', n', rfl, k, kc, kd, kl⟩ := r'.tup'
  exact ⟨o, n, t, b, o', ws', n', h, hc, hd, k, kc, kd, kl⟩
theorem node_inj {K : KM} {x y : Node} {a : Addr} (hx : Rep w K x.toV (.ref a)) (hy : Rep w K y.toV (.ref a)) : x = y := by
  cases x with
  | leaf i =>
    obtain ⟨o, n, t, u, h, hc, hd⟩ := leaf_at hx
    cases y with
    | leaf j =>
      obtain ⟨o', n', t', u', h', hc', hd'⟩ := leaf_at hy
      exact congrArg Node.leaf (Value.int.inj (two_inj (seq_inj h h' hd hd')).2).1
    | br j ps =>
      obtain ⟨o', n', t', b, o1, ws, n1, h', hc', hd', -⟩ := br_at hy
      cases (two_inj (seq_inj h h' hd hd')).1
  | br i ps =>
    obtain ⟨o, n, t, b, o1, ws, n1, h, hc, hd, k, kc, kd, kl⟩ := br_at hx
    cases y with
    | leaf j =>
      obtain ⟨o', n', t', u', h', hc', hd'⟩ := leaf_at hy
      cases (two_inj (seq_inj h h' hd hd')).1
    | br j qs =>
      obtain ⟨o', n', t', b', o1', ws', n1', h', hc', hd', k', kc', kd', kl'⟩ := br_at hy
      have e := two_inj (seq_inj h h' hd hd')
      cases e.2
      cases seq_inj k k' kd kd'
      rw [(Value.int.inj e.1).1, pairs_inj kl kl']

theorem hspec_pair {h : Heap} {k : Nat} {p : Int × Int} {v : Value} (x : Rep w h.get? (.pair p) v) : HSpec w h (k + 1) v (pairHash w p) 3 := by
  obtain ⟨a, o, n, t, u, rfl, h1, hc, hd⟩ := rep_pair x
  exact hspec_tup (k := k) ⟨o, n, h1, hc, hd⟩ (.cons hspec_int (.cons hspec_int .nil))
theorem hspec_pairs {h : Heap} {k : Nat} : ∀ {ps : List (Int × Int)} {vs : List Value}, Reps w h.get? (ps.map .pair) vs → HSpecs w h (k + 1) vs (ps.map (pairHash w)) (3 * ps.length)
  | [], _, .nil => .nil
  | p :: ps, _, .cons x t => by
    have e : 3 * (p :: ps).length = 3 + 3 * ps.length := by simp; (first | lia | omega)
    rw [e]
    exact .cons (hspec_pair x) (hspec_pairs t)
theorem hspec_node {h : Heap} {x : Node} {a : Addr} (r : Rep w h.get? x.toV (.ref a)) : HSpec w h 3 (.ref a) (nodeHash w x) (nodeDraws x) := by
  cases x with
  | leaf i =>
    obtain ⟨o, n, t, u, h1, hc, hd⟩ := leaf_at r
    exact hspec_tup (k := 2) ⟨_, _, h1, hc, hd⟩ (.cons hspec_str (.cons hspec_int .nil))
  | br i ps =>
    obtain ⟨o, n, t, b, o1, ws, n1, h1, hc, hd, k, kc, kd, kl⟩ := br_at r
    exact hspec_tup (k := 2) ⟨_, _, h1, hc, hd⟩ (.cons hspec_int (.cons (hspec_tup (k := 1) ⟨_, _, k, kc, kd⟩ (hspec_pairs kl)) .nil))

theorem espec_of_eq {h : Heap} {k : Nat} {u v : Value} {b c : Bool} (e : ESpec w h k u v b) (q : b = c) : ESpec w h k u v c := q ▸ e
theorem EqL.two {h : Heap} {k : Nat} {u u' v v' : Value} {b c : Bool} (e : ESpec w h k u v b) (e' : ESpec w h k u' v' c) : EqL w h k [u, u'] [v, v'] (b && c) := by
  cases b with
  | false => exact .diff e
  | true =>
    cases c with
    | false => exact .same e (.diff e')
    | true => exact .same e (.same e' .nil)
theorem EqL.of_eq {h : Heap} {k : Nat} {us vs : List Value} {b c : Bool} (e : EqL w h k us vs b) (q : b = c) : EqL w h k us vs c := q ▸ e
theorem dec_and {p q r : Prop} [Decidable p] [Decidable q] [Decidable r] (h : r ↔ p ∧ q) : (decide p && decide q) = decide r := by
  rw [← Bool.decide_and]; exact decide_eq_decide.mpr h.symm
theorem espec_pair {h : Heap} {k : Nat} {p q : Int × Int} {u v : Value} (x : Rep w h.get? (.pair p) u) (y : Rep w h.get? (.pair q) v) : ESpec w h (k + 1) u v (decide (p = q)) := by
  have inj : u = v → p = q := fun e => pair_inj x (e ▸ y)
  obtain ⟨a, o, n, t1, t2, rfl, h1, hc, hd⟩ := rep_pair x
  obtain ⟨a', o', n', t1', t2', rfl, h1', hc', hd'⟩ := rep_pair y
  exact espec_tup (k := k) ⟨o, n, h1, hc, hd⟩ ⟨o', n', h1', hc', hd'⟩ (fun e => decide_eq_true (inj (congrArg Value.ref e))) ((EqL.two espec_int espec_int).of_eq (dec_and Prod.ext_iff))
theorem eql_pairs {h : Heap} {k : Nat} : ∀ {ps qs : List (Int × Int)} {us vs : List Value}, Reps w h.get? (ps.map .pair) us → Reps w h.get? (qs.map .pair) vs → EqL w h (k + 1) us vs (decide (ps = qs)) := by
  intro ps
  induction ps with
  | nil =>
    intro qs us vs x y
    rw [Reps.nil' x]
    cases qs with
    | nil => rw [Reps.nil' y]; exact .nil
    | cons q qs => obtain ⟨v, ws, rfl, _, _⟩ := Reps.cons' y; exact .right
  | cons p ps ih =>
    intro qs us vs x y
    obtain ⟨u, us, rfl, h1, t1⟩ := Reps.cons' x
    cases qs with
    | nil => rw [Reps.nil' y]; exact .left
    | cons q qs =>
      obtain ⟨v, vs, rfl, h2, t2⟩ := Reps.cons' y
      have e : (decide (p = q) && decide (ps = qs)) = decide (p :: ps = q :: qs) := dec_and List.cons_eq_cons
      rw [← e]
      have E := espec_pair (k := k) h1 h2
      cases q' : decide (p = q) with
      | false => rw [q'] at E; exact .diff E
      | true => rw [q'] at E; exact .same E (ih t1 t2)
theorem espec_node {h : Heap} {x y : Node} {a b : Addr} (hx : Rep w h.get? x.toV (.ref a)) (hy : Rep w h.get? y.toV (.ref b)) : ESpec w h 3 (.ref a) (.ref b) (decide (x = y)) := by
  have inj : a = b → decide (x = y) = true := fun e => decide_eq_true (node_inj hx (e ▸ hy))
  cases x with
  | leaf i =>
    obtain ⟨o, n, t, u, h1, hc, hd⟩ := leaf_at hx
    cases y with
    | leaf j =>
      obtain ⟨o', n', t', u', h', hc', hd'⟩ := leaf_at hy
      exact espec_tup (k := 2) ⟨_, _, h1, hc, hd⟩ ⟨_, _, h', hc', hd'⟩ inj ((EqL.two espec_str espec_int).of_eq (dec_and ⟨fun e => ⟨rfl, Node.leaf.inj e⟩, fun e => congrArg _ e.2⟩))
    | br j qs =>
      obtain ⟨o', n', t', b', o1', ws', n1', h', hc', hd', -⟩ := br_at hy
      exact espec_tup (k := 2) ⟨_, _, h1, hc, hd⟩ ⟨_, _, h', hc', hd'⟩ inj (.diff espec_str_int)
  | br i ps =>
    obtain ⟨o, n, t, b1, o1, ws, n1, h1, hc, hd, k, kc, kd, kl⟩ := br_at hx
    cases y with
    | leaf j =>
      obtain ⟨o', n', t', u', h', hc', hd'⟩ := leaf_at hy
      exact espec_tup (k := 2) ⟨_, _, h1, hc, hd⟩ ⟨_, _, h', hc', hd'⟩ inj (.diff espec_int_str)
    | br j qs =>
      obtain ⟨o', n', t', b', o1', ws', n1', h', hc', hd', k', kc', kd', kl'⟩ := br_at hy
      have E2 : ESpec w h 2 (.ref b1) (.ref b') (decide (ps = qs)) := espec_tup (k := 1) ⟨_, _, k, kc, kd⟩ ⟨_, _, k', kc', kd'⟩ (fun e => by
        subst e; cases seq_inj k k' kd kd'; exact decide_eq_true (pairs_inj kl kl')) (eql_pairs kl kl')
      exact espec_tup (k := 2) ⟨_, _, h1, hc, hd⟩ ⟨_, _, h', hc', hd'⟩ inj ((EqL.two espec_int E2).of_eq (dec_and ⟨fun e => Node.br.inj e, fun e => by rw [e.1, e.2]⟩))
theorem two_mem {α : Type} {P : α → Prop} {a b : α} (h : P a) (h' : P b) : ∀ u ∈ [a, b], P u := fun u m => by
  rcases List.mem_cons.mp m with rfl | m
  · exact h
  · rw [List.mem_singleton.mp m]; exact h'
theorem reps_quiet_pairs {h : Heap} {n : Nat} : ∀ {ps : List (Int × Int)} {vs : List Value}, Reps w h.get? (ps.map .pair) vs → ∀ v ∈ vs, QSpec w h (n + 1) v := by
  intro ps
  induction ps with
  | nil => intro vs x v m; rw [Reps.nil' x] at m; cases m
  | cons p ps ih =>
    intro vs x v m
    obtain ⟨u, us, rfl, h1, t1⟩ := Reps.cons' x
    rcases List.mem_cons.mp m with rfl | m
    · obtain ⟨a, o, k, t1, t2, rfl, k1, hc, hd⟩ := rep_pair h1
      exact qspec_tup ⟨o, k, k1, hc, hd⟩ (two_mem qspec_int qspec_int)
    · exact ih t1 v m
theorem qspec_node {h : Heap} {x : Node} {a : Addr} (r : Rep w h.get? x.toV (.ref a)) : QSpec w h 8 (.ref a) := by
  cases x with
  | leaf i =>
    obtain ⟨o, n, t, u, h1, hc, hd⟩ := leaf_at r
    exact qspec_tup ⟨_, _, h1, hc, hd⟩ (two_mem qspec_str qspec_int)
  | br i ps =>
    obtain ⟨o, n, t, b, o1, ws, n1, h1, hc, hd, k, kc, kd, kl⟩ := br_at r
    exact qspec_tup ⟨_, _, h1, hc, hd⟩ (two_mem qspec_int (qspec_tup ⟨_, _, k, kc, kd⟩ (reps_quiet_pairs kl)))

theorem not_dict {h : Heap} {a d : Addr} {o o' : Obj} {es ep ws n} (ho : h.get? d = some o) (hd : o.data = .dict es ep) (h1 : h.get? a = some o') (hd1 : o'.data = .seq ws n) : a ≠ d := by
  rintro rfl; rw [h1] at ho; cases ho; rw [hd1] at hd; cases hd
theorem pairs_keep {h h' : Heap} {d : Addr} {o : Obj} {es ep} (ho : h.get? d = some o) (hd : o.data = .dict es ep) (hs : Heap.SameBut d h h') {ps : List (Int × Int)} {vs : List Value} (x : Reps w h.get? (ps.map .pair) vs) : Reps w h'.get? (ps.map .pair) vs := by
  induction ps generalizing vs with
  | nil => rw [Reps.nil' x]; exact .nil
  | cons p ps ih =>
    obtain ⟨u, us, rfl, h1, t1⟩ := Reps.cons' x
    obtain ⟨a, o', n, t, u, rfl, k, kc, kd⟩ := rep_pair h1
    exact .cons (.tup ((hs.2 _ (not_dict ho hd k kd)).trans k) kc kd (.cons (.int _ _) (.cons (.int _ _) .nil))) (ih t1)
theorem node_keeps {h h' : Heap} {k : Node} {a d : Addr} {o : Obj} {es ep} (x : Rep w h.get? k.toV (.ref a)) (ho : h.get? d = some o) (hd : o.data = .dict es ep) (hs : Heap.SameBut d h h') : Rep w h'.get? k.toV (.ref a) := by
  cases k with
  | leaf i =>
    obtain ⟨o', n, t, u, h1, hc, hd1⟩ := leaf_at x
    exact .tup ((hs.2 _ (not_dict ho hd h1 hd1)).trans h1) hc hd1 (.cons (.str _ _) (.cons (.int _ _) .nil))
  | br i ps =>
    obtain ⟨o', n, t, b, o1, ws, n1, h1, hc, hd1, k, kc, kd, kl⟩ := br_at x
    exact .tup ((hs.2 _ (not_dict ho hd h1 hd1)).trans h1) hc hd1 (.cons (.int _ _) (.cons (.tup ((hs.2 _ (not_dict ho hd k kd)).trans k) kc kd (pairs_keep ho hd hs kl)) .nil))

def nodeKind (w : World) : HeapKind Challenge.pw_pq1073_01 w Node where
  is := fun h k a => Rep w h.get? k.toV (.ref a)
  hash := nodeHash w
  draws := nodeDraws
  room := fun A => A.units + 3 < cLine
  inj := fun hx hy => node_inj hx hy
  keeps := fun x ho hd hs => node_keeps x ho hd hs
  pyHash := fun hu hk h => hspec_node hk _ _ _ _ rfl hu h
  eqBool := fun hu hx hy h => espec_node hx hy _ _ _ _ rfl hu h
  quiet := fun hk h => qspec_node hk _ _ _ _ rfl h

theorem ints_are : ∀ {ks : List Int} {ws : List Value} {K : KM}, Reps w K (ks.map .int) ws → ItemsAre (iKind w) ks ws := by
  intro ks
  induction ks with
  | nil => intro ws K x; rw [Reps.nil' x]; exact .nil
  | cons k ks ih =>
    intro ws K x
    obtain ⟨u, us, rfl, h1, t1⟩ := Reps.cons' x
    obtain ⟨t, rfl⟩ := h1.int'
    exact .cons (intKind_is _ _ _ _) (ih t1)
theorem ints_key {h : Heap} {ks : List Int} {a : Addr} (x : Rep w h.get? (.ints ks) (.ref a)) : IsTupleKey (iKind w) h ks a := by
  obtain ⟨o, ws, n, h1, hc, hd, hl⟩ := Rep.tupA x
  exact ⟨_, _, n, h1, hc, hd, ints_are hl⟩
end
end Mine
end

section
open PySem PySem.W PyProof.Rows PySem.Calls
set_option Elab.async false
set_option maxRecDepth 100000
set_option linter.unusedVariables false
namespace Mine

structure St where
  m : Str → Option V
  H : Addr → Option AO

def mput (m : Str → Option V) (x : Str) (u : V) : Str → Option V := fun y => if y = x then some u else m y
def hput (H : Addr → Option AO) (a : Addr) (o : AO) : Addr → Option AO := fun b => if b = a then some o else H b
def hdel (H : Addr → Option AO) (a : Addr) : Addr → Option AO := fun b => if b = a then none else H b
theorem hput_self {H : Addr → Option AO} {a : Addr} {o : AO} : hput H a o a = some o := if_pos rfl
theorem hput_ne {H : Addr → Option AO} {a b : Addr} {o : AO} (h : b ≠ a) : hput H a o b = H b := if_neg h
theorem hdel_ne {H : Addr → Option AO} {a b : Addr} (h : b ≠ a) : hdel H a b = H b := if_neg h
theorem hdel_self {H : Addr → Option AO} {a : Addr} : hdel H a a = none := if_pos rfl
theorem mput_self {m : Str → Option V} {x : Str} {u : V} : mput m x u x = some u := if_pos rfl
theorem mput_ne {m : Str → Option V} {x y : Str} {u : V} (h : y ≠ x) : mput m x u y = m y := if_neg h

section
variable {w : World}

def DictRep (w : World) (K : KM) {κ : Type} [DecidableEq κ] (knd : HeapKind Challenge.pw_pq1073_01 w κ) (kv : κ → V) (es : List (κ × V)) (o : Obj) : Prop :=
  o.ExactDict ∧ ∃ ees ep, ∃ xs : List (κ × Addr × Value), o.data = .dict ees ep ∧ ees.toList = xs.map (entryOfKey knd) ∧ (xs.map (·.1)).Nodup ∧ xs.map (·.1) = es.map (·.1) ∧
    Reps w K (es.map fun e => kv e.1) (xs.map fun x => .ref x.2.1) ∧ Reps w K (es.map (·.2)) (xs.map (·.2.2))

def ORep (w : World) (K : KM) : AO → Obj → Prop
  | .list l, o => ∃ ws n, o = { cls := .type "list", data := .seq ws n } ∧ Reps w K l ws.toList
  | .dictI es, o => DictRep w K (tupleKind (iKind w)) V.ints es o
  | .dictN es, o => DictRep w K (nodeKind w) Node.toV es o
  | .inst c dx, o => o = instObj c dx
  | .idict fs, o => ∃ des n, ∃ vf : Str → Value, (o = dictOf des n ∧ des.length ≤ fs.length) ∧ (∀ nm u, fs.lookup nm = some u → getL nm des = some (some (vf nm)) ∧ handedIn (vf nm) = true) ∧
      (∀ nm u, fs.lookup nm = some u → Rep w K u (vf nm)) ∧ (∀ nm, fs.lookup nm = none → getL nm des = some none)

theorem DictRep.mono {K K' : KM} {κ : Type} [DecidableEq κ] {knd : HeapKind Challenge.pw_pq1073_01 w κ} {kv : κ → V} {es : List (κ × V)} {o : Obj} (le : KLe K K') (x : DictRep w K knd kv es o) : DictRep w K' knd kv es o :=
  let ⟨e, ees, ep, xs, a, b, c, d, f, g⟩ := x; ⟨e, ees, ep, xs, a, b, c, d, f.mono le, g.mono le⟩
theorem ORep.mono {K K' : KM} (le : KLe K K') : ∀ {a : AO} {o : Obj}, ORep w K a o → ORep w K' a o
  | .list _, _, ⟨ws, n, e, r⟩ => ⟨ws, n, e, r.mono le⟩
  | .dictI _, _, x => DictRep.mono le x
  | .dictN _, _, x => DictRep.mono le x
  | .inst .., _, x => x
  | .idict _, _, ⟨des, n, vf, e, a, b, c⟩ => ⟨des, n, vf, e, a, fun nm u q => (b nm u q).mono le, c⟩
theorem ORep.free {K : KM} : ∀ {a : AO} {o : Obj}, ORep w K a o → o.isFreed = false
  | .list _, _, ⟨ws, n, e, r⟩ => by rw [e]; rfl
  | .dictI _, _, ⟨_, _, _, _, d, _⟩ => Obj.isFreed_of_dict d
  | .dictN _, _, ⟨_, _, _, _, d, _⟩ => Obj.isFreed_of_dict d
  | .inst .., _, x => by rw [show _ = _ from x]; rfl
  | .idict _, _, ⟨des, n, vf, ⟨e, _⟩, _⟩ => by rw [e]; rfl

structure RH (w : World) (P K : KM) (H : Addr → Option AO) (h : Heap) : Prop where
  prot : ∀ a o, P a = some o → h.get? a = some o
  froz : ∀ a o, K a = some o → h.get? a = some o
  objs : ∀ a o, H a = some o → (∃ ob, h.get? a = some ob ∧ ORep w K o ob) ∧ P a = none ∧ K a = none

def KGe (P K K' : KM) : Prop := (∀ a o, K a = some o → K' a = some o) ∧ ∀ a o, K' a = some o → K a = some o ∨ P a = none
theorem KGe.refl (P K : KM) : KGe P K K := ⟨fun _ _ e => e, fun _ _ e => .inl e⟩
theorem KGe.trans {P K K' K'' : KM} (x : KGe P K K') (y : KGe P K' K'') : KGe P K K'' :=
  ⟨fun a o e => y.1 a o (x.1 a o e), fun a o e => (y.2 a o e).elim (fun q => x.2 a o q) .inr⟩
theorem KGe.le {P K K' : KM} (x : KGe P K K') : KLe K K' := x.1
theorem KGe.lessP {P P' K K' : KM} (x : KGe P K K') (h : ∀ a, P a = none → P' a = none) : KGe P' K K' := ⟨x.1, fun a o e => (x.2 a o e).imp id (h a)⟩
theorem KGe.put {P K : KM} {a : Addr} {o : Obj} (hK : K a = none) (hP : P a = none) : KGe P K (K.put a o) :=
  ⟨KM.le_put hK, fun b x e => by
    by_cases q : b = a
    · subst q; exact .inr hP
    · rw [KM.put_ne q] at e; exact .inl e⟩

def dead (h : Heap) (a : Addr) : Prop := h.get? a = none
theorem RH.freshP {P K : KM} {H : Addr → Option AO} {h : Heap} (R : RH w P K H h) {a : Addr} (d : h.get? a = none) : P a = none ∧ K a = none ∧ H a = none := by
  refine ⟨?_, ?_, ?_⟩
  · cases q : P a with
    | none => rfl
    | some o => rw [R.prot _ _ q] at d; cases d
  · cases q : K a with
    | none => rfl
    | some o => rw [R.froz _ _ q] at d; cases d
  · cases q : H a with
    | none => rfl
    | some o => obtain ⟨⟨ob, e, _⟩, _⟩ := R.objs _ _ q; rw [e] at d; cases d
theorem get_size (h : Heap) : h.get? h.objs.size = none := by
  cases q : h.get? h.objs.size with
  | none => rfl
  | some o => exact absurd (Heap.lt_size q) (Nat.lt_irrefl _)

structure Own (env : Env) (P K : KM) (h : Heap) : Prop where
  loc : env.locals ∉ env.cells.map (·.2)
  cel : ∀ c ∈ env.cells.map (·.2), P c = none ∧ K c = none ∧ ∃ v, h.IsCell c v
  nod : (env.cells.map (·.2)).Nodup
  has : ∀ x, env.kindOf x = some .cell → (env.cells.lookup x).isSome = true

structure Rl (w : World) (P K : KM) (env : Env) (ow : Bool) (st : St) (h : Heap) : Prop where
  rh : RH w P K st.H h
  off : ∀ a o, st.H a = some o → a ≠ env.locals ∧ (ow = true → a ∉ env.cells.map (·.2))
  ns : ∃ m', h.Ns env.locals m' ∧ ∀ x u, st.m x = some u → env.kindOf x = some .local → ∃ v, m' x = some v ∧ Rep w K u v
  loc : P env.locals = none ∧ K env.locals = none
  cel : ∀ x u, st.m x = some u → env.kindOf x = some .cell → ∃ c v, env.cells.lookup x = some c ∧ h.IsCell c (some v) ∧ Rep w K u v
  own : ow = true → Own env P K h
  pro : ow = false → ∀ c ∈ env.cells.map (·.2), ∃ o, P c = some o

/- keeping everything that matters -/
def Mat (P K : KM) (env : Env) (ow : Bool) (st : St) (a : Addr) : Prop := P a ≠ none ∨ K a ≠ none ∨ st.H a ≠ none ∨ a = env.locals ∨ (ow = true ∧ a ∈ env.cells.map (·.2))
theorem mem_cells {l : List (Str × Addr)} {x : Str} {c : Addr} (e : l.lookup x = some c) : c ∈ l.map (·.2) := by
  induction l with
  | nil => cases e
  | cons p r ih =>
    obtain ⟨y, d⟩ := p
    rw [List.lookup_cons] at e
    split at e
    · cases e; simp
    · exact List.mem_cons_of_mem _ (ih e)
theorem Rl.keep {P K : KM} {env : Env} {ow : Bool} {st : St} {h h' : Heap} (R : Rl w P K env ow st h) (hk : ∀ a o, Mat P K env ow st a → h.get? a = some o → h'.get? a = some o) : Rl w P K env ow st h' where
  rh := ⟨fun a o e => hk a o (.inl (by rw [e]; simp)) (R.rh.prot a o e), fun a o e => hk a o (.inr (.inl (by rw [e]; simp))) (R.rh.froz a o e),
    fun a o e => let ⟨⟨ob, e1, r⟩, q⟩ := R.rh.objs a o e; ⟨⟨ob, hk a ob (.inr (.inr (.inl (by rw [e]; simp)))) e1, r⟩, q⟩⟩
  off := R.off
  ns := by
    obtain ⟨m', ⟨o, es, ep, e, r⟩, q⟩ := R.ns
    exact ⟨m', ⟨o, es, ep, hk _ _ (.inr (.inr (.inr (.inl rfl)))) e, r⟩, q⟩
  loc := R.loc
  cel := fun x u e k => by
    obtain ⟨c, v, e1, ⟨o, e2, e3⟩, r⟩ := R.cel x u e k
    refine ⟨c, v, e1, ⟨o, hk _ _ ?_ e2, e3⟩, r⟩
    cases q : ow with
    | true => exact .inr (.inr (.inr (.inr ⟨rfl, mem_cells e1⟩)))
    | false => obtain ⟨o, e⟩ := R.pro q c (mem_cells e1); exact .inl (by rw [e]; simp)
  own := fun q => ⟨(R.own q).loc, fun c hc => let ⟨a, b, v, o, e, d⟩ := (R.own q).cel c hc; ⟨a, b, v, o, hk _ _ (.inr (.inr (.inr (.inr ⟨q, hc⟩)))) e, d⟩, (R.own q).nod, (R.own q).has⟩
  pro := R.pro
theorem Rl.grow {P K : KM} {env : Env} {ow : Bool} {st : St} {h h' : Heap} (R : Rl w P K env ow st h) (hk : ∀ a o, h.get? a = some o → h'.get? a = some o) : Rl w P K env ow st h' := R.keep fun a o _ e => hk a o e
theorem Rl.push {P K : KM} {env : Env} {ow : Bool} {st : St} {h : Heap} (R : Rl w P K env ow st h) (o : Obj) : Rl w P K env ow st (h.push o) := R.grow fun _ _ e => Heap.get?_push_of_some _ e

theorem Rl.dead {P K : KM} {env : Env} {ow : Bool} {st : St} {h : Heap} (R : Rl w P K env ow st h) {a : Addr} (d : h.get? a = none) : P a = none ∧ K a = none ∧ st.H a = none ∧ a ≠ env.locals ∧ (ow = true → a ∉ env.cells.map (·.2)) := by
  obtain ⟨h1, h2, h3⟩ := R.rh.freshP d
  refine ⟨h1, h2, h3, ?_, fun q hm => ?_⟩
  · rintro rfl; obtain ⟨m', ⟨o, _, _, e, _⟩, _⟩ := R.ns; rw [e] at d; cases d
  · obtain ⟨_, _, v, o, e, _⟩ := (R.own q).cel a hm; rw [e] at d; cases d

/-- a new frozen object -/
theorem Rl.pushK {P K : KM} {env : Env} {ow : Bool} {st : St} {h : Heap} (R : Rl w P K env ow st h) {o : Obj} (hf : o.isFreed = false) :
    Rl w P (K.put h.objs.size o) env ow st (h.push o) ∧ KGe P K (K.put h.objs.size o) := by
  obtain ⟨h1, h2, h3, h4, h5⟩ := R.dead (get_size h)
  have g := KGe.put (o := o) h2 h1
  have R' := R.push o
  refine ⟨⟨⟨R'.rh.prot, fun a x e => ?_, fun a x e => ?_⟩, R'.off, ?_, ⟨R'.loc.1, ?_⟩, fun x u e k => ?_, fun q => ⟨(R'.own q).loc, fun c hc => ?_, (R'.own q).nod, (R'.own q).has⟩, R'.pro⟩, g⟩
  · by_cases q : a = h.objs.size
    · subst q; rw [KM.put_self] at e; cases e; exact Heap.get?_push_size _ hf
    · rw [KM.put_ne q] at e; exact R'.rh.froz a x e
  · obtain ⟨⟨ob, e1, r⟩, e2, e3⟩ := R'.rh.objs a x e
    refine ⟨⟨ob, e1, r.mono g.le⟩, e2, ?_⟩
    rw [KM.put_ne (by rintro rfl; rw [h3] at e; cases e)]; exact e3
  · obtain ⟨m', n, q⟩ := R'.ns; exact ⟨m', n, fun x u e k => let ⟨v, e1, r⟩ := q x u e k; ⟨v, e1, r.mono g.le⟩⟩
  · rw [KM.put_ne (Ne.symm h4)]; exact R'.loc.2
  · obtain ⟨c, v, e1, e2, r⟩ := R'.cel x u e k; exact ⟨c, v, e1, e2, r.mono g.le⟩
  · obtain ⟨e1, e2, e3⟩ := (R'.own q).cel c hc
    refine ⟨e1, ?_, e3⟩
    rw [KM.put_ne (by rintro rfl; exact h5 q hc)]; exact e2

/-- a new object that may change -/
theorem Rl.pushH {P K : KM} {env : Env} {ow : Bool} {st : St} {h : Heap} (R : Rl w P K env ow st h) {o : Obj} {a : AO} (r : ORep w K a o) :
    Rl w P K env ow { st with H := hput st.H h.objs.size a } (h.push o) ∧ st.H h.objs.size = none := by
  obtain ⟨h1, h2, h3, h4, h5⟩ := R.dead (get_size h)
  have R' := R.push o
  refine ⟨⟨⟨R'.rh.prot, R'.rh.froz, fun b x e => ?_⟩, fun b x e => ?_, R'.ns, R'.loc, R'.cel, R'.own, R'.pro⟩, h3⟩
  · by_cases q : b = h.objs.size
    · subst q; simp only [hput_self] at e; cases e; exact ⟨⟨o, Heap.get?_push_size _ r.free, r⟩, h1, h2⟩
    · simp only [hput_ne q] at e; exact R'.rh.objs b x e
  · by_cases q : b = h.objs.size
    · subst q; exact ⟨h4, h5⟩
    · simp only [hput_ne q] at e; exact R'.off b x e

/-- a mutable object changes -/
theorem Rl.setH {P K : KM} {env : Env} {ow : Bool} {st : St} {h h' : Heap} (R : Rl w P K env ow st h) {d : Addr} {o o' : AO} {ob' : Obj} (e : st.H d = some o) (hs : Heap.SameBut d h h') (hd : h'.get? d = some ob') (r : ORep w K o' ob') :
    Rl w P K env ow { st with H := hput st.H d o' } h' := by
  obtain ⟨hP, hK⟩ := (R.rh.objs d o e).2
  obtain ⟨hl, hc⟩ := R.off d o e
  have kp : ∀ a x, a ≠ d → h.get? a = some x → h'.get? a = some x := fun a x n q => (hs.2 a n).trans q
  refine ⟨⟨fun a x q => kp a x (by rintro rfl; rw [hP] at q; cases q) (R.rh.prot a x q), fun a x q => kp a x (by rintro rfl; rw [hK] at q; cases q) (R.rh.froz a x q), fun b x q => ?_⟩, fun b x q => ?_, ?_, R.loc, fun x u q k => ?_, fun q => ⟨(R.own q).loc, fun c hc' => ?_, (R.own q).nod, (R.own q).has⟩, R.pro⟩
  · by_cases n : b = d
    · subst n; simp only [hput_self] at q; cases q; exact ⟨⟨ob', hd, r⟩, hP, hK⟩
    · simp only [hput_ne n] at q
      obtain ⟨⟨ob, e1, r1⟩, e2⟩ := R.rh.objs b x q
      exact ⟨⟨ob, kp _ _ n e1, r1⟩, e2⟩
  · by_cases n : b = d
    · subst n; exact ⟨hl, hc⟩
    · simp only [hput_ne n] at q; exact R.off b x q
  · obtain ⟨m', ⟨o, es, ep, e1, r1⟩, q⟩ := R.ns; exact ⟨m', ⟨o, es, ep, kp _ _ (Ne.symm hl) e1, r1⟩, q⟩
  · obtain ⟨c, v, e1, ⟨o1, e2, e3⟩, r1⟩ := R.cel x u q k
    refine ⟨c, v, e1, ⟨o1, kp _ _ ?_ e2, e3⟩, r1⟩
    rintro rfl
    cases q' : ow with
    | true => exact hc q' (mem_cells e1)
    | false => obtain ⟨o, e⟩ := R.pro q' c (mem_cells e1); rw [hP] at e; cases e
  · obtain ⟨e1, e2, v, o1, e3, e4⟩ := (R.own q).cel c hc'
    exact ⟨e1, e2, v, o1, kp _ _ (by rintro rfl; exact hc q hc') e3, e4⟩

/-- a mutable object is frozen -/
theorem Rl.freeze {P K : KM} {env : Env} {ow : Bool} {st : St} {h : Heap} (R : Rl w P K env ow st h) {d : Addr} {o : AO} {ob : Obj} (e : st.H d = some o) (hd : h.get? d = some ob) :
    Rl w P (K.put d ob) env ow { st with H := hdel st.H d } h ∧ KGe P K (K.put d ob) := by
  obtain ⟨hP, hK⟩ := (R.rh.objs d o e).2
  obtain ⟨hl, hc⟩ := R.off d o e
  have g := KGe.put (o := ob) hK hP
  have dn : ∀ b x, hdel st.H d b = some x → b ≠ d ∧ st.H b = some x := fun b x q => by
    by_cases n : b = d
    · subst n; rw [hdel_self] at q; cases q
    · rw [hdel_ne n] at q; exact ⟨n, q⟩
  refine ⟨⟨⟨R.rh.prot, fun a x q => ?_, fun b x q => ?_⟩, fun b x q => R.off b x (dn b x q).2, ?_, ⟨R.loc.1, ?_⟩, fun x u q k => ?_, fun q => ⟨(R.own q).loc, fun c hc' => ?_, (R.own q).nod, (R.own q).has⟩, R.pro⟩, g⟩
  · by_cases n : a = d
    · subst n; rw [KM.put_self] at q; cases q; exact hd
    · rw [KM.put_ne n] at q; exact R.rh.froz a x q
  · obtain ⟨n, q⟩ := dn b x q
    obtain ⟨⟨ob, e1, r1⟩, e2, e3⟩ := R.rh.objs b x q
    exact ⟨⟨ob, e1, r1.mono g.le⟩, e2, by rw [KM.put_ne n]; exact e3⟩
  · obtain ⟨m', n, q⟩ := R.ns; exact ⟨m', n, fun x u e k => let ⟨v, e1, r⟩ := q x u e k; ⟨v, e1, r.mono g.le⟩⟩
  · rw [KM.put_ne (Ne.symm hl)]; exact R.loc.2
  · obtain ⟨c, v, e1, e2, r⟩ := R.cel x u q k; exact ⟨c, v, e1, e2, r.mono g.le⟩
  · obtain ⟨e1, e2, e3⟩ := (R.own q).cel c hc'
    exact ⟨e1, by rw [KM.put_ne (by rintro rfl; exact hc q hc')]; exact e2, e3⟩

/-- a local is stored -/
theorem Rl.local {P K : KM} {env : Env} {ow : Bool} {st : St} {h h' : Heap} {m' : Str → Option Value} {x : Str} {u : V} {v : Value} (R : Rl w P K env ow st h) (hm : ∀ y t, st.m y = some t → env.kindOf y = some .local → ∃ v, m' y = some v ∧ Rep w K t v)
    (hx : env.kindOf x = some .local) (r : Rep w K u v) (hn : h'.Ns env.locals fun y => if y = x then some v else m' y) (hs : Heap.SameBut env.locals h h') : Rl w P K env ow { st with m := mput st.m x u } h' := by
  have kp : ∀ a o, a ≠ env.locals → h.get? a = some o → h'.get? a = some o := fun a o n q => (hs.2 a n).trans q
  refine ⟨⟨fun a o q => kp a o (by rintro rfl; rw [R.loc.1] at q; cases q) (R.rh.prot a o q), fun a o q => kp a o (by rintro rfl; rw [R.loc.2] at q; cases q) (R.rh.froz a o q), fun b o q => ?_⟩, R.off, ⟨_, hn, fun y t q k => ?_⟩, R.loc, fun y t q k => ?_,
    fun q => ⟨(R.own q).loc, fun c hc' => ?_, (R.own q).nod, (R.own q).has⟩, R.pro⟩
  · obtain ⟨⟨ob, e1, r1⟩, e2⟩ := R.rh.objs b o q
    exact ⟨⟨ob, kp _ _ (R.off b o q).1 e1, r1⟩, e2⟩
  · by_cases n : y = x
    · subst n; simp only [mput_self] at q; cases q; exact ⟨v, if_pos rfl, r⟩
    · simp only [mput_ne n] at q; obtain ⟨v', e, r'⟩ := hm y t q k; exact ⟨v', by simp only [if_neg n]; exact e, r'⟩
  · by_cases n : y = x
    · subst n; rw [hx] at k; cases k
    · simp only [mput_ne n] at q
      obtain ⟨c, v', e1, ⟨o1, e2, e3⟩, r1⟩ := R.cel y t q k
      refine ⟨c, v', e1, ⟨o1, kp _ _ ?_ e2, e3⟩, r1⟩
      rintro rfl
      cases q' : ow with
      | true => exact (R.own q').loc (mem_cells e1)
      | false => obtain ⟨o, e⟩ := R.pro q' _ (mem_cells e1); rw [R.loc.1] at e; cases e
  · obtain ⟨e1, e2, v', o1, e3, e4⟩ := (R.own q).cel c hc'
    exact ⟨e1, e2, v', o1, kp _ _ (by rintro rfl; exact (R.own q).loc hc') e3, e4⟩

theorem lookup_ne {l : List (Str × Addr)} (nd : (l.map (·.2)).Nodup) {x y : Str} {c : Addr} (hx : l.lookup x = some c) (hy : l.lookup y = some c) : x = y := by
  induction l with
  | nil => cases hx
  | cons p r ih =>
    obtain ⟨z, d⟩ := p
    simp only [List.map_cons, List.nodup_cons] at nd
    rw [List.lookup_cons] at hx hy
    split at hx
    · rename_i e1
      cases hx
      split at hy
      · rename_i e2; rw [eq_of_beq e1, eq_of_beq e2]
      · exact absurd (mem_cells hy) nd.1
    · split at hy
      · cases hy; exact absurd (mem_cells hx) nd.1
      · exact ih nd.2 hx hy

/-- a cell is stored -/
theorem Rl.cell {P K : KM} {env : Env} {st : St} {h h' : Heap} {x : Str} {u : V} {v : Value} {c : Addr} (R : Rl w P K env true st h) (hx : env.kindOf x = some .cell) (hc : env.cells.lookup x = some c) (r : Rep w K u v) (hn : h'.IsCell c (some v)) (hs : Heap.SameBut c h h') :
    Rl w P K env true { st with m := mput st.m x u } h' := by
  have kp : ∀ a o, a ≠ c → h.get? a = some o → h'.get? a = some o := fun a o n q => (hs.2 a n).trans q
  have O := R.own rfl
  have cm := mem_cells hc
  obtain ⟨hP, hK, _⟩ := O.cel c cm
  have lc : env.locals ≠ c := fun e => O.loc (e ▸ cm)
  refine ⟨⟨fun a o q => kp a o (by rintro rfl; rw [hP] at q; cases q) (R.rh.prot a o q), fun a o q => kp a o (by rintro rfl; rw [hK] at q; cases q) (R.rh.froz a o q), fun b o q => ?_⟩, R.off, ?_, R.loc, fun y t q k => ?_,
    fun q => ⟨O.loc, fun c' hc' => ?_, O.nod, O.has⟩, R.pro⟩
  · obtain ⟨⟨ob, e1, r1⟩, e2⟩ := R.rh.objs b o q
    exact ⟨⟨ob, kp _ _ (by rintro rfl; exact (R.off _ o q).2 rfl cm) e1, r1⟩, e2⟩
  · obtain ⟨m', ⟨o, es, ep, e1, r1⟩, q⟩ := R.ns
    refine ⟨m', ⟨o, es, ep, kp _ _ lc e1, r1⟩, fun y t e k => ?_⟩
    by_cases n : y = x
    · subst n; rw [hx] at k; cases k
    · simp only [mput_ne n] at e; exact q y t e k
  · by_cases n : y = x
    · subst n; simp only [mput_self] at q; cases q; exact ⟨c, v, hc, hn, r⟩
    · simp only [mput_ne n] at q
      obtain ⟨c', v', e1, ⟨o1, e2, e3⟩, r1⟩ := R.cel y t q k
      refine ⟨c', v', e1, ⟨o1, kp _ _ ?_ e2, e3⟩, r1⟩
      rintro rfl
      exact n (lookup_ne O.nod e1 hc)
  · obtain ⟨e1, e2, v', o1, e3, e4⟩ := O.cel c' hc'
    by_cases n : c' = c
    · subst n; exact ⟨e1, e2, _, hn⟩
    · exact ⟨e1, e2, v', o1, kp _ _ n e3, e4⟩

/-- what is known may be forgotten -/
theorem Rl.forget {P K : KM} {env : Env} {ow : Bool} {st st' : St} {h : Heap} (R : Rl w P K env ow st h) (hm : ∀ x u, st'.m x = some u → st.m x = some u) (hH : ∀ a o, st'.H a = some o → st.H a = some o) : Rl w P K env ow st' h :=
  ⟨⟨R.rh.prot, R.rh.froz, fun a o e => R.rh.objs a o (hH a o e)⟩, fun a o e => R.off a o (hH a o e), let ⟨m', n, q⟩ := R.ns; ⟨m', n, fun x u e k => q x u (hm x u e) k⟩, R.loc, fun x u e k => R.cel x u (hm x u e) k, R.own, R.pro⟩

/-- the protected part for a callee, and the way back -/
def shut (H : Addr → Option AO) (h : Heap) : KM := fun a => match H a with | some _ => none | none => h.get? a
theorem shut_of {H : Addr → Option AO} {h : Heap} {a : Addr} (e : H a = none) : shut H h a = h.get? a := by unfold shut; rw [e]
theorem shut_none {H : Addr → Option AO} {h : Heap} {a : Addr} {o : AO} (e : H a = some o) : shut H h a = none := by unfold shut; rw [e]
theorem Rl.enter {P K : KM} {env : Env} {ow : Bool} {st : St} {h : Heap} (R : Rl w P K env ow st h) : RH w (shut st.H h) K st.H h ∧ ∀ a o, P a = some o → shut st.H h a = some o := by
  refine ⟨⟨fun a o e => ?_, R.rh.froz, fun a o e => ⟨(R.rh.objs a o e).1, shut_none e, (R.rh.objs a o e).2.2⟩⟩, fun a o e => ?_⟩
  · cases q : st.H a with
    | none => rwa [shut_of q] at e
    | some x => rw [shut_none q] at e; cases e
  · cases q : st.H a with
    | none => rw [shut_of q]; exact R.rh.prot a o e
    | some x => rw [((R.rh.objs a x q).2).1] at e; cases e
theorem Rl.back {P K K' : KM} {env : Env} {ow : Bool} {st : St} {h h' : Heap} {H' : Addr → Option AO} (R : Rl w P K env ow st h) (g : KGe (shut st.H h) K K') (R' : RH w (shut st.H h) K' H' h') :
    Rl w P K' env ow { st with H := H' } h' ∧ KGe P K K' := by
  obtain ⟨-, le⟩ := R.enter
  have nH : ∀ a o, h.get? a = some o → (∀ x, st.H a ≠ some x) → shut st.H h a = some o := fun a o e n => by
    cases q : st.H a with
    | none => rw [shut_of q]; exact e
    | some x => exact absurd q (n x)
  obtain ⟨m', ⟨oL, es, ep, eL, rL⟩, qL⟩ := R.ns
  have sL : shut st.H h env.locals = some oL := nH _ _ eL fun x q => (R.off _ x q).1 rfl
  have cells : ∀ q : ow = true, ∀ c ∈ env.cells.map (·.2), ∃ v o, h.get? c = some o ∧ o.data = .cell v ∧ shut st.H h c = some o := fun q c hc => by
    obtain ⟨_, _, v, o, e, d⟩ := (R.own q).cel c hc
    exact ⟨v, o, e, d, nH _ _ e fun x y => (R.off _ x y).2 q hc⟩
  have Knone : ∀ a, K a = none → (∃ o, shut st.H h a = some o) → K' a = none := fun a e ⟨o, s⟩ => by
    cases q : K' a with
    | none => rfl
    | some x => rcases g.2 a x q with y | y
                · rw [e] at y; cases y
                · rw [s] at y; cases y
  refine ⟨⟨⟨fun a o e => R'.prot a o (le a o e), R'.froz, fun a o e => ?_⟩, fun a o e => ⟨?_, fun q hc => ?_⟩, ⟨m', ⟨oL, es, ep, R'.prot _ _ sL, rL⟩, fun x u e k => let ⟨v, e1, r⟩ := qL x u e k; ⟨v, e1, r.mono g.le⟩⟩,
    ⟨R.loc.1, Knone _ R.loc.2 ⟨_, sL⟩⟩, fun x u e k => ?_, fun q => ⟨(R.own q).loc, fun c hc => ?_, (R.own q).nod, (R.own q).has⟩, R.pro⟩, g.lessP fun a e => ?_⟩
  · obtain ⟨e1, e2, e3⟩ := R'.objs a o e
    refine ⟨e1, ?_, e3⟩
    cases q : P a with
    | none => rfl
    | some x => rw [le a x q] at e2; cases e2
  · rintro rfl; have := (R'.objs _ o e).2.1; rw [sL] at this; cases this
  · obtain ⟨v, ob, _, _, s⟩ := cells q a hc
    have := (R'.objs _ o e).2.1; rw [s] at this; cases this
  · obtain ⟨c, v, e1, ⟨o1, e2, e3⟩, r1⟩ := R.cel x u e k
    refine ⟨c, v, e1, ⟨o1, R'.prot _ _ (nH _ _ e2 fun y z => ?_), e3⟩, r1.mono g.le⟩
    cases q : ow with
    | true => exact (R.off _ y z).2 q (mem_cells e1)
    | false => obtain ⟨o, e⟩ := R.pro q _ (mem_cells e1); rw [((R.rh.objs _ _ z).2).1] at e; cases e
  · obtain ⟨e1, e2, _⟩ := (R.own q).cel c hc
    obtain ⟨v, ob, _, d, s⟩ := cells q c hc
    exact ⟨e1, Knone _ e2 ⟨_, s⟩, v, ob, R'.prot _ _ s, d⟩
  · cases q : P a with
    | none => rfl
    | some x => rw [le a x q] at e; cases e
end
end Mine
end

section
open PySem PySem.W PyProof.Rows PySem.Calls
set_option Elab.async false
set_option maxRecDepth 100000
set_option linter.unusedVariables false
namespace Mine

structure Cx where
  w : World
  hb : Heap
  mg : Str → Option Value
  mb : Str → Option Value
  g : hb.Ns mainGlobals mg
  b : hb.Ns builtinsNs mb
  lim : hb.NoLimit
  seer : hb.NoSeer
  bb : ∀ x : Str, x ≠ "__name__" → mb x = bootBuiltins x
  X : (frK w.params).In hb

structure Okc (A : Around) (d : Nat) : Prop where
  hh : A.handled = none
  dep : A.depth + d + 100 < recursionLimit
  un : A.units + 8 * d + 100 < cLine
  fr : ∃ l, A.frames = some l
structure GoodEnv (env : Env) : Prop where
  gen : env.scope.isGenerator = false
  co : env.scope.isCoroutine = false
  bu : env.builtins = builtinsNs
  gl : env.globals = mainGlobals
structure Okd (A : Around) (d : Nat) : Prop extends Okc A d where
  top : ∃ env l, A.frames = some (env :: l) ∧ GoodEnv env
theorem Okc.deeper {A : Around} {d : Nat} (o : Okc A (d + 1)) {env : Env} (g : GoodEnv env) : Okd (A.deeper env) d := by
  obtain ⟨l, e⟩ := o.fr
  have e' : (A.deeper env).frames = some (env :: l) := Around.frames_deeper e
  exact ⟨⟨o.hh, by have := o.dep; show A.depth + 1 + d + 100 < _; (first | lia | omega), by have := o.un; show A.units + 3 + 8 * d + 100 < _; (first | lia | omega), ⟨_, e'⟩⟩, ⟨env, l, e', g⟩⟩
theorem Okc.le {A : Around} {d e : Nat} (o : Okc A d) (h : e ≤ d) : Okc A e := ⟨o.hh, by have := o.dep; (first | lia | omega), by have := o.un; (first | lia | omega), o.fr⟩
theorem Okd.in1 {A : Around} {d : Nat} (o : Okd A (d + 1)) : Okd A.in1 d :=
  ⟨⟨o.hh, by have := o.dep; show A.depth + d + 100 < _; (first | lia | omega), by have := o.un; show A.units + 1 + 8 * d + 100 < _; (first | lia | omega), o.fr⟩, o.top⟩
theorem Okd.le {A : Around} {d e : Nat} (o : Okd A d) (h : e ≤ d) : Okd A e := ⟨o.toOkc.le h, o.top⟩
theorem Okc.u {A : Around} {d : Nat} (o : Okc A d) : A.units + 100 < cLine := by have := o.un; (first | lia | omega)

structure Fm where
  sc : Scope
  ow : Bool
  d : Nat
structure EnvOk (f : Fm) (env : Env) : Prop where
  sc : env.scope = f.sc
  gl : env.globals = mainGlobals
  bu : env.builtins = builtinsNs
  fn : f.sc.kind = .function
theorem EnvOk.kind {f : Fm} {env : Env} (e : EnvOk f env) : env.scope.kind = .function := by rw [e.sc]; exact e.fn
theorem EnvOk.kindOf {f : Fm} {env : Env} (e : EnvOk f env) (x : Str) : env.kindOf x = f.sc.names.lookup x := by unfold Env.kindOf; rw [e.sc]

abbrev Ext (hb : Heap) (P : KM) : Prop := ∀ a o, hb.get? a = some o → P a = some o

section
variable (C : Cx) (f : Fm)
def aT {α β : Type} (rel : KM → β → α → Prop) (t : Env → Sem α) (Q : β → St → Prop) (st : St) : Prop :=
  ∀ (P K : KM) (env : Env) (A : Around) (s : Shared) (Qc : α → Shared → Prop) (E : Value → Shared → Prop), Okd A f.d → EnvOk f env → Ext C.hb P → Rl C.w P K env f.ow st s.heap →
    (∀ u v st' K' h' tk, KGe P K K' → Rl C.w P K' env f.ow st' h' → rel K' u v → Q u st' → Qc v { s with heap := h', toks := tk }) → wpAny (MM C.w) A (t env) Qc E s

def aw (e : Expr) (Q : V → St → Prop) (st : St) : Prop := aT C f (Rep C.w) (eval e) Q st
def aws (es : List Expr) (Q : List V → St → Prop) (st : St) : Prop := ∀ pos, aT C f (Reps C.w) (fun env => spliced (backTo pos (starEach es env))) Q st
def at' (e : Expr) (Q : Bool → St → Prop) (st : St) : Prop := aT C f (fun _ (b c : Bool) => c = b) (fun env => isTrue e env (eval e env)) Q st

inductive Fl where
  | next | brk | cont | ret (u : V)
inductive FRep (w : World) (K : KM) : Fl → Flow → Prop
  | next : FRep w K .next .next
  | brk : FRep w K .brk .brk
  | cont : FRep w K .cont .cont
  | ret {u : V} {v : Value} (r : Rep w K u v) : FRep w K (.ret u) (.ret v)
def ax (b : List Stmt) (Q : Fl → St → Prop) (st : St) : Prop := aT C f (FRep C.w) (execs b) Q st
/-- assigning a value u to a target -/
def aas (t : Expr) (u : V) (Q : St → Prop) (st : St) : Prop :=
  ∀ (P K : KM) (env : Env) (A : Around) (s : Shared) (v : Value) (Qc : Unit → Shared → Prop) (E : Value → Shared → Prop), Okd A f.d → EnvOk f env → Ext C.hb P → Rl C.w P K env f.ow st s.heap → Rep C.w K u v →
    (∀ st' K' h' tk, KGe P K K' → Rl C.w P K' env f.ow st' h' → Q st' → Qc () { s with heap := h', toks := tk }) → wpAny (MM C.w) A (assign t env v) Qc E s
end

section
variable {C : Cx} {f : Fm} {st : St}

theorem aT.mono {α β : Type} {rel : KM → β → α → Prop} {t : Env → Sem α} {Q Q' : β → St → Prop} (h : aT C f rel t Q st) (q : ∀ u st', Q u st' → Q' u st') : aT C f rel t Q' st :=
  fun P K env A s Qc E hA hE hX R k => h P K env A s Qc E hA hE hX R fun u v st' K' h' tk g R' r q' => k u v st' K' h' tk g R' r (q u st' q')
theorem aw.mono {e : Expr} {Q Q' : V → St → Prop} (h : aw C f e Q st) (q : ∀ u st', Q u st' → Q' u st') : aw C f e Q' st := aT.mono h q
theorem ax.mono {b : List Stmt} {Q Q' : Fl → St → Prop} (h : ax C f b Q st) (q : ∀ u st', Q u st' → Q' u st') : ax C f b Q' st := aT.mono h q
theorem aT.pure' {α β : Type} {rel : KM → β → α → Prop} {v : α} {u : β} {Q : β → St → Prop} (r : ∀ K, rel K u v) (q : Q u st) : aT C f rel (fun _ => pure v) Q st :=
  fun P K env A s Qc E hA hE hX R k => wpAny_pure (k u v st K s.heap s.toks (KGe.refl P K) R (r K) q)
theorem aT.forget {α β : Type} {rel : KM → β → α → Prop} {t : Env → Sem α} {Q : β → St → Prop} {st₀ : St} (h : aT C f rel t Q st) (hm : ∀ x u, st.m x = some u → st₀.m x = some u) (hH : ∀ a o, st.H a = some o → st₀.H a = some o) : aT C f rel t Q st₀ :=
  fun P K env A s Qc E hA hE hX R k => h P K env A s Qc E hA hE hX (R.forget hm hH) k

/- names -/
theorem aw_local {x : Str} {p : Pos} {u : V} {Q : V → St → Prop} (hm : st.m x = some u) (q : Q u st) (hk : f.sc.names.lookup x = some .local := by rfl) (hd : (x == ("__debug__" : Str)) = false := by decide) : aw C f (.Name x p) Q st := by
  intro P K env A s Qc E hA hE hX R k
  obtain ⟨m', n, h⟩ := R.ns
  have hk' : env.kindOf x = some .local := by rw [hE.kindOf]; exact hk
  obtain ⟨v, e, r⟩ := h x u hm hk'
  exact wpAny_Name (wpAny_loadName_local hE.kind hk' n e (k u v st K s.heap s.toks (KGe.refl P K) R r q)) hd
theorem aw_cell {x : Str} {p : Pos} {u : V} {Q : V → St → Prop} (hm : st.m x = some u) (q : Q u st) (hk : f.sc.names.lookup x = some .cell := by rfl) (hd : (x == ("__debug__" : Str)) = false := by decide) : aw C f (.Name x p) Q st := by
  intro P K env A s Qc E hA hE hX R k
  have hk' : env.kindOf x = some .cell := by rw [hE.kindOf]; exact hk
  obtain ⟨c, v, e, i, r⟩ := R.cel x u hm hk'
  exact wpAny_Name (wpAny_loadName_cell hE.kind hk' e i (k u v st K s.heap s.toks (KGe.refl P K) R r q)) hd
theorem Rl.ext {P K : KM} {env : Env} {ow : Bool} {h : Heap} {hb : Heap} {w : World} (R : Rl w P K env ow st h) (hX : Ext hb P) : ∀ b o, hb.get? b = some o → h.get? b = some o := fun b o e => R.rh.prot b o (hX b o e)
theorem aw_global {x : Str} {p : Pos} {v : Value} {Q : V → St → Prop} (hv : C.mg x = some v) (q : Q (.raw v) st) (hk : f.sc.names.lookup x = some .globalImplicit := by rfl) (hd : (x == ("__debug__" : Str)) = false := by decide) : aw C f (.Name x p) Q st := by
  intro P K env A s Qc E hA hE hX R k
  have hk' : env.kindOf x = some .globalImplicit := by rw [hE.kindOf]; exact hk
  refine Name_function_global hE.kind hk' (loadGlobal_global (mg := C.mg) (by rw [hE.gl]; exact C.g.keeps (Rl.ext R hX)) hv ?_) hd
  exact k _ v st K s.heap s.toks (KGe.refl P K) R (.raw v) q
theorem aw_builtin {x : Str} {p : Pos} {v : Value} {Q : V → St → Prop} (hm : C.mg x = none) (hv : bootBuiltins x = some v) (q : Q (.raw v) st) (hk : f.sc.names.lookup x = some .globalImplicit := by rfl) (hn : x ≠ "__name__" := by decide) (hd : (x == ("__debug__" : Str)) = false := by decide) : aw C f (.Name x p) Q st := by
  intro P K env A s Qc E hA hE hX R k
  have hk' : env.kindOf x = some .globalImplicit := by rw [hE.kindOf]; exact hk
  refine Name_function_global hE.kind hk' (loadGlobal_builtin (mg := C.mg) (mb := C.mb) (by rw [hE.gl]; exact C.g.keeps (Rl.ext R hX)) hm (by rw [hE.bu]; exact C.b.keeps (Rl.ext R hX)) ((C.bb x hn).trans hv) ?_) hd
  exact k _ v st K s.heap s.toks (KGe.refl P K) R (.raw v) q

/- constants -/
theorem aw_int {i : Int} {n : Nat} {p : Pos} {Q : V → St → Prop} (q : Q (.int i) st) : aw C f (.Constant (.int i) n p) Q st :=
  fun P K env A s Qc E hA hE hX R k => wpAny_Constant_int (k _ _ st K s.heap _ (KGe.refl P K) R (.int i _) q)
theorem aw_str {x : Str} {n : Nat} {p : Pos} {Q : V → St → Prop} (q : Q (.str x) st) : aw C f (.Constant (.str x) n p) Q st :=
  fun P K env A s Qc E hA hE hX R k => wpAny_Constant_str (k _ _ st K s.heap _ (KGe.refl P K) R (.str x _) q)
theorem aw_bool {b : Bool} {n : Nat} {p : Pos} {Q : V → St → Prop} (q : Q (.bool b) st) : aw C f (.Constant (.bool b) n p) Q st :=
  fun P K env A s Qc E hA hE hX R k => by
    have := k _ _ st K s.heap s.toks (KGe.refl P K) R (.bool b) q
    exact fun _ _ _ => this

/- ints -/
def BinOk (C : Cx) (op : Operator) (a b r : V) : Prop :=
  ∀ (P K : KM) (A : Around) (s : Shared) (va vb : Value) (Qc : Value → Shared → Prop) (E : Value → Shared → Prop), Okd A 0 → C.hb.StaysIn s.heap → Rep C.w K a va → Rep C.w K b vb →
    (∀ v tk, Rep C.w K r v → Qc v { s with toks := tk }) → wpAny (MM C.w) A (binaryOp op va vb) Qc E s
/- what the rules ask, under names: a walk's terms stay small -/
inductive BinQ (C : Cx) (op : Operator) (Q : V → St → Prop) (a b : V) (st : St) : Prop
  | mk (c : V) (hc : BinOk C op a b c) (q : Q c st)
def binR (C : Cx) (f : Fm) (op : Operator) (r : Expr) (Q : V → St → Prop) (a : V) (st : St) : Prop := aw C f r (BinQ C op Q a) st
theorem aw_BinOp {l r : Expr} {op : Operator} {p : Pos} {Q : V → St → Prop} (h : aw C f l (binR C f op r Q) st) : aw C f (.BinOp l op r p) Q st := by
  intro P K env A s Qc E hA hE hX R k
  refine wpAny_BinOp (h P K env A s _ E hA hE hX R ?_)
  intro a va st₁ K₁ h₁ tk₁ g₁ R₁ ra h2
  refine h2 P K₁ env A _ _ E hA hE hX R₁ ?_
  rintro b vb st₂ K₂ h₂ tk₂ g₂ R₂ rb ⟨c, hc, q⟩
  exact hc P K₂ A _ va vb _ E (hA.le (Nat.zero_le _)) (fun b o e => Rl.ext R₂ hX b o e) (ra.mono g₂.le) rb fun v tk rv => k c v st₂ K₂ h₂ tk (g₁.trans g₂) R₂ rv q
theorem bin_add {i j : Int} : BinOk C .Add (.int i) (.int j) (.int (i + j)) := by
  intro P K A s va vb Qc E hA _ ra rb k; (first | cases ra.raw' | obtain ⟨_, rfl⟩ := ra.int' | obtain ⟨_, rfl⟩ := ra.str' | cases ra.bool' | cases ra); (first | cases rb.raw' | obtain ⟨_, rfl⟩ := rb.int' | obtain ⟨_, rfl⟩ := rb.str' | cases rb.bool' | cases rb); exact PySem.P.add_int (k _ _ (.int _ _))
theorem bin_sub {i j : Int} : BinOk C .Sub (.int i) (.int j) (.int (i - j)) := by
  intro P K A s va vb Qc E hA _ ra rb k; (first | cases ra.raw' | obtain ⟨_, rfl⟩ := ra.int' | obtain ⟨_, rfl⟩ := ra.str' | cases ra.bool' | cases ra); (first | cases rb.raw' | obtain ⟨_, rfl⟩ := rb.int' | obtain ⟨_, rfl⟩ := rb.str' | cases rb.bool' | cases rb); exact PySem.P.sub_int (k _ _ (.int _ _))
theorem bin_div {i j : Int} (h : j ≠ 0) : BinOk C .FloorDiv (.int i) (.int j) (.int (i.fdiv j)) := by
  intro P K A s va vb Qc E hA hs ra rb k; (first | cases ra.raw' | obtain ⟨_, rfl⟩ := ra.int' | obtain ⟨_, rfl⟩ := ra.str' | cases ra.bool' | cases ra); (first | cases rb.raw' | obtain ⟨_, rfl⟩ := rb.int' | obtain ⟨_, rfl⟩ := rb.str' | cases rb.bool' | cases rb)
  exact floordiv_int_or hA.hh (fun e => absurd e h) (fun _ => k _ _ (.int _ _)) (fun _ => .inr (PySem.PylongRoom.of (C.lim.keeps hs) (by have := hA.dep; simp only [Builtin.pylongFrames]; (first | lia | omega)) (by obtain ⟨env, l, e, g⟩ := hA.top; exact PySem.SeerAt.of (C.seer.keeps hs) rfl e g.gen g.co g.bu g.gl)))
theorem bin_mod {i j : Int} (h : j ≠ 0) : BinOk C .Mod (.int i) (.int j) (.int (i.fmod j)) := by
  intro P K A s va vb Qc E hA _ ra rb k; (first | cases ra.raw' | obtain ⟨_, rfl⟩ := ra.int' | obtain ⟨_, rfl⟩ := ra.str' | cases ra.bool' | cases ra); (first | cases rb.raw' | obtain ⟨_, rfl⟩ := rb.int' | obtain ⟨_, rfl⟩ := rb.str' | cases rb.bool' | cases rb)
  exact mod_int_or hA.hh (fun e => absurd e h) (fun _ => k _ _ (.int _ _))

inductive NegQ (Q : V → St → Prop) (a : V) (st : St) : Prop
  | mk (i : Int) (e : a = .int i) (q : Q (.int (-i)) st)
theorem aw_neg {e : Expr} {p : Pos} {Q : V → St → Prop} (h : aw C f e (NegQ Q) st) : aw C f (.UnaryOp .USub e p) Q st := by
  intro P K env A s Qc E hA hE hX R k
  refine wpAny_UnaryOp (h P K env A s _ E hA hE hX R ?_)
  rintro a va st₁ K₁ h₁ tk₁ g₁ R₁ ra ⟨i, rfl, q⟩
  (first | cases ra.raw' | obtain ⟨_, rfl⟩ := ra.int' | obtain ⟨_, rfl⟩ := ra.str' | cases ra.bool' | cases ra)
  exact PySem.P.neg_int (k _ _ st₁ K₁ h₁ _ g₁ R₁ (.int _ _) q)

/- comparisons -/
def CmpOk (C : Cx) (op : CmpOp) (a b : V) (H : Addr → Option AO) (c : Bool) : Prop :=
  ∀ (P K : KM) (A : Around) (s : Shared) (va vb : Value) (Qc : Value → Shared → Prop) (E : Value → Shared → Prop), Okd A 0 → C.hb.StaysIn s.heap → RH C.w P K H s.heap → Rep C.w K a va → Rep C.w K b vb →
    (∀ tk, Qc (.bool c) { s with toks := tk }) → wpAny (MM C.w) A (compareOp op va vb) Qc E s
inductive CmpQ (C : Cx) (op : CmpOp) (Q : Bool → St → Prop) (a b : V) (st : St) : Prop
  | mk (c : Bool) (hc : CmpOk C op a b st.H c) (q : Q c st)
def cmpR (C : Cx) (f : Fm) (op : CmpOp) (r : Expr) (Q : Bool → St → Prop) (a : V) (st : St) : Prop := aw C f r (CmpQ C op Q a) st
def boolQ (Q : V → St → Prop) (c : Bool) (st : St) : Prop := Q (.bool c) st
theorem aw_cmp {l r : Expr} {op : CmpOp} {p : Pos} {Q : V → St → Prop} (h : aw C f l (cmpR C f op r (boolQ Q)) st)
    (hm : behindInMarks op r = false := by with_unfolding_all rfl) : aw C f (.Compare l [op] [r] p) Q st := by
  intro P K env A s Qc E hA hE hX R k
  refine wpAny_Compare1 (h P K env A s _ E hA hE hX R ?_) hm
  intro a va st₁ K₁ h₁ tk₁ g₁ R₁ ra h2
  refine h2 P K₁ env A _ _ E hA hE hX R₁ ?_
  rintro b vb st₂ K₂ h₂ tk₂ g₂ R₂ rb ⟨c, hc, q⟩
  exact hc P K₂ A _ va vb _ E (hA.le (Nat.zero_le _)) (fun b o e => Rl.ext R₂ hX b o e) R₂.rh (ra.mono g₂.le) rb fun tk => k _ _ st₂ K₂ h₂ tk (g₁.trans g₂) R₂ (.bool c) q
theorem at_cmp {l r : Expr} {op : CmpOp} {p : Pos} {Q : Bool → St → Prop} (h : aw C f l (cmpR C f op r Q) st)
    (hm : behindInMarks op r = false := by with_unfolding_all rfl) : at' C f (.Compare l [op] [r] p) Q st := by
  intro P K env A s Qc E hA hE hX R k
  refine wpAny_isTrue_Compare1 (h P K env A s _ E hA hE hX R ?_) hm
  intro a va st₁ K₁ h₁ tk₁ g₁ R₁ ra h2
  refine h2 P K₁ env A _ _ E hA hE hX R₁ ?_
  rintro b vb st₂ K₂ h₂ tk₂ g₂ R₂ rb ⟨c, hc, q⟩
  exact hc P K₂ A _ va vb _ E (hA.le (Nat.zero_le _)) (fun b o e => Rl.ext R₂ hX b o e) R₂.rh (ra.mono g₂.le) rb fun tk => wpAny_truthy_bool (k _ _ st₂ K₂ h₂ tk (g₁.trans g₂) R₂ rfl q)
theorem wp_testChain1 {A : Around} {E : Value → Shared → Prop} {s : Shared} {M : Model} {pos : Pos} {l : Value} {op : CmpOp} {r : Sem Value} {Q : Bool → Shared → Prop}
    (h : wpAny M A r (fun b s₂ => wpAny M A (compareOp op l b) (fun c s₃ => wpAny M A (truthy c) Q E s₃) E s₂) E s) : wpAny M A (testChain pos l [op] [r]) Q E s := by
  show wpAny M A (do let rv ← holding [l] r; standAt pos; let c ← operate [l, rv] (compareOp op l rv); holding [c] (truthy c)) Q E s
  refine wpAny_bind (wpAny_holding (wpAny_mono h (fun b s₂ h₂ => wpAny_bind (wpAny_standAt (wpAny_bind ?_))) fun _ _ e => e))
  intro Γ p hΓ
  rw [Sem.wp_operate]
  exact Sem.wp_mono _ Γ _ (fun c p₃ s₃ h₃ => wpAny_holding (vs := [c]) h₃) (fun _ _ _ e => e) _ _ (h₂ Γ p hΓ)
theorem wp_testChain2 {A : Around} {E : Value → Shared → Prop} {s : Shared} {M : Model} {pos : Pos} {l : Value} {op op₂ : CmpOp} {r r₂ : Sem Value} {Q : Bool → Shared → Prop}
    (h : wpAny M A r (fun b s₂ => wpAny M A (compareOp op l b) (fun c s₃ => wpAny M A (truthy c) (fun t s₄ => if t then wpAny M A (testChain pos b [op₂] [r₂]) Q E s₄ else Q false s₄) E s₃) E s₂) E s) :
    wpAny M A (testChain pos l [op, op₂] [r, r₂]) Q E s := by
  show wpAny M A (do let rv ← holding [l] r; standAt pos; let c ← holding [l, rv] (compareOp op l rv); release [l, rv] [c]; if ← holding [c, rv] (truthy c) then testChain pos rv [op₂] [r₂] else pure false) Q E s
  refine wpAny_bind (wpAny_holding (wpAny_mono h (fun b s₂ h₂ => wpAny_bind (wpAny_standAt (wpAny_bind (wpAny_holding (wpAny_mono h₂ (fun c s₃ h₃ => ?_) fun _ _ e => e))))) fun _ _ e => e))
  refine wpAny_bind (wpAny_release (wpAny_bind (wpAny_holding (wpAny_mono h₃ (fun t s₄ h₄ => ?_) fun _ _ e => e))))
  cases t with
  | true => exact h₄
  | false => exact wpAny_pure h₄
inductive Cmp2Q (C : Cx) (f : Fm) (op op₂ : CmpOp) (r₂ : Expr) (Q : Bool → St → Prop) (a b : V) (st : St) : Prop
  | mk (c : Bool) (hc : CmpOk C op a b st.H c) (q0 : c = false → Q false st) (q1 : c = true → cmpR C f op₂ r₂ Q b st)
def cmp2R (C : Cx) (f : Fm) (op op₂ : CmpOp) (r r₂ : Expr) (Q : Bool → St → Prop) (a : V) (st : St) : Prop := aw C f r (Cmp2Q C f op op₂ r₂ Q a) st
theorem at_cmp2 {l r r₂ : Expr} {op op₂ : CmpOp} {p : Pos} {Q : Bool → St → Prop}
    (h : aw C f l (cmp2R C f op op₂ r r₂ Q) st)
    (hm : lastMarks [op, op₂] [r, r₂] = false := by with_unfolding_all rfl) : at' C f (.Compare l [op, op₂] [r, r₂] p) Q st := by
  intro P K env A s Qc E hA hE hX R k
  refine isTrue_chain (ops := []) (rs := []) (h P K env A s _ E hA hE hX R ?_) hm
  intro a va st₁ K₁ h₁ tk₁ g₁ R₁ ra h2
  refine wp_testChain2 (h2 P K₁ env A _ _ E hA hE hX R₁ ?_)
  rintro b vb st₂ K₂ h₂ tk₂ g₂ R₂ rb ⟨c, hc, q0, q1⟩
  refine hc P K₂ A _ va vb _ E (hA.le (Nat.zero_le _)) (fun b o e => Rl.ext R₂ hX b o e) R₂.rh (ra.mono g₂.le) rb fun tk => wpAny_truthy_bool ?_
  cases c with
  | false => exact k _ _ st₂ K₂ h₂ tk (g₁.trans g₂) R₂ rfl (q0 rfl)
  | true =>
    refine wp_testChain1 (q1 rfl P K₂ env A _ _ E hA hE hX R₂ ?_)
    rintro b₂ vb₂ st₃ K₃ h₃ tk₃ g₃ R₃ rb₂ ⟨c₂, hc₂, q⟩
    exact hc₂ P K₃ A _ vb vb₂ _ E (hA.le (Nat.zero_le _)) (fun b o e => Rl.ext R₃ hX b o e) R₃.rh (rb.mono g₃.le) rb₂ fun tk => wpAny_truthy_bool (k _ _ st₃ K₃ h₃ tk ((g₁.trans g₂).trans g₃) R₃ rfl q)
variable {H : Addr → Option AO}
theorem cmp_lt {i j : Int} : CmpOk C .Lt (.int i) (.int j) H (decide (i < j)) := by intro P K A s va vb Qc E hA _ _ ra rb k; (first | cases ra.raw' | obtain ⟨_, rfl⟩ := ra.int' | obtain ⟨_, rfl⟩ := ra.str' | cases ra.bool' | cases ra); (first | cases rb.raw' | obtain ⟨_, rfl⟩ := rb.int' | obtain ⟨_, rfl⟩ := rb.str' | cases rb.bool' | cases rb); exact PySem.P.lt_int (k _)
theorem cmp_le {i j : Int} : CmpOk C .LtE (.int i) (.int j) H (decide (i ≤ j)) := by intro P K A s va vb Qc E hA _ _ ra rb k; (first | cases ra.raw' | obtain ⟨_, rfl⟩ := ra.int' | obtain ⟨_, rfl⟩ := ra.str' | cases ra.bool' | cases ra); (first | cases rb.raw' | obtain ⟨_, rfl⟩ := rb.int' | obtain ⟨_, rfl⟩ := rb.str' | cases rb.bool' | cases rb); exact PySem.P.le_int (k _)
theorem cmp_gt {i j : Int} : CmpOk C .Gt (.int i) (.int j) H (decide (i > j)) := by intro P K A s va vb Qc E hA _ _ ra rb k; (first | cases ra.raw' | obtain ⟨_, rfl⟩ := ra.int' | obtain ⟨_, rfl⟩ := ra.str' | cases ra.bool' | cases ra); (first | cases rb.raw' | obtain ⟨_, rfl⟩ := rb.int' | obtain ⟨_, rfl⟩ := rb.str' | cases rb.bool' | cases rb); exact PySem.P.gt_int (k _)
theorem cmp_ge {i j : Int} : CmpOk C .GtE (.int i) (.int j) H (decide (i ≥ j)) := by intro P K A s va vb Qc E hA _ _ ra rb k; (first | cases ra.raw' | obtain ⟨_, rfl⟩ := ra.int' | obtain ⟨_, rfl⟩ := ra.str' | cases ra.bool' | cases ra); (first | cases rb.raw' | obtain ⟨_, rfl⟩ := rb.int' | obtain ⟨_, rfl⟩ := rb.str' | cases rb.bool' | cases rb); exact PySem.P.ge_int (k _)
theorem cmp_eq {i j : Int} : CmpOk C .Eq (.int i) (.int j) H (i == j) := by intro P K A s va vb Qc E hA _ _ ra rb k; (first | cases ra.raw' | obtain ⟨_, rfl⟩ := ra.int' | obtain ⟨_, rfl⟩ := ra.str' | cases ra.bool' | cases ra); (first | cases rb.raw' | obtain ⟨_, rfl⟩ := rb.int' | obtain ⟨_, rfl⟩ := rb.str' | cases rb.bool' | cases rb); exact PySem.P.eq_int (k _)
theorem cmp_ne {i j : Int} : CmpOk C .NotEq (.int i) (.int j) H (i != j) := by intro P K A s va vb Qc E hA _ _ ra rb k; (first | cases ra.raw' | obtain ⟨_, rfl⟩ := ra.int' | obtain ⟨_, rfl⟩ := ra.str' | cases ra.bool' | cases ra); (first | cases rb.raw' | obtain ⟨_, rfl⟩ := rb.int' | obtain ⟨_, rfl⟩ := rb.str' | cases rb.bool' | cases rb); exact PySem.P.ne_int (k _)
theorem cmp_eq_si {x : Str} {j : Int} : CmpOk C .Eq (.str x) (.int j) H false := by intro P K A s va vb Qc E hA _ _ ra rb k; (first | cases ra.raw' | obtain ⟨_, rfl⟩ := ra.int' | obtain ⟨_, rfl⟩ := ra.str' | cases ra.bool' | cases ra); (first | cases rb.raw' | obtain ⟨_, rfl⟩ := rb.int' | obtain ⟨_, rfl⟩ := rb.str' | cases rb.bool' | cases rb); exact EqMixed.eq_str_int (k _)
theorem cmp_eq_is {x : Str} {j : Int} : CmpOk C .Eq (.int j) (.str x) H false := by intro P K A s va vb Qc E hA _ _ ra rb k; (first | cases ra.raw' | obtain ⟨_, rfl⟩ := ra.int' | obtain ⟨_, rfl⟩ := ra.str' | cases ra.bool' | cases ra); (first | cases rb.raw' | obtain ⟨_, rfl⟩ := rb.int' | obtain ⟨_, rfl⟩ := rb.str' | cases rb.bool' | cases rb); exact EqMixed.eq_int_str (k _)
theorem cmp_ne_is {x : Str} {j : Int} : CmpOk C .NotEq (.int j) (.str x) H true := by intro P K A s va vb Qc E hA _ _ ra rb k; (first | cases ra.raw' | obtain ⟨_, rfl⟩ := ra.int' | obtain ⟨_, rfl⟩ := ra.str' | cases ra.bool' | cases ra); (first | cases rb.raw' | obtain ⟨_, rfl⟩ := rb.int' | obtain ⟨_, rfl⟩ := rb.str' | cases rb.bool' | cases rb); exact EqMixed.ne_int_str (k _)

/- truth -/
def TruthOk (C : Cx) (a : V) (H : Addr → Option AO) (b : Bool) : Prop :=
  ∀ (P K : KM) (A : Around) (s : Shared) (va : Value) (Qc : Bool → Shared → Prop) (E : Value → Shared → Prop), Okd A 0 → RH C.w P K H s.heap → Rep C.w K a va → (∀ tk, Qc b { s with toks := tk }) → wpAny (MM C.w) A (truthy va) Qc E s
theorem tr_bool {b : Bool} : TruthOk C (.bool b) H b := by intro P K A s va Qc E hA _ ra k; (first | cases ra.raw' | obtain ⟨_, rfl⟩ := ra.int' | obtain ⟨_, rfl⟩ := ra.str' | cases ra.bool' | cases ra); exact wpAny_truthy_bool (k _)
theorem tr_int {i : Int} : TruthOk C (.int i) H (i != 0) := by intro P K A s va Qc E hA _ ra k; (first | cases ra.raw' | obtain ⟨_, rfl⟩ := ra.int' | obtain ⟨_, rfl⟩ := ra.str' | cases ra.bool' | cases ra); exact PySem.P.truthy_int (k _)
inductive TruQ (C : Cx) (Q : Bool → St → Prop) (a : V) (st : St) : Prop
  | mk (b : Bool) (hb : TruthOk C a st.H b) (q : Q b st)
theorem at_val {e : Expr} {Q : Bool → St → Prop} (h : aw C f e (TruQ C Q) st)
    (he : ∀ env whole, isTrue e env whole = (do let v ← whole; standAt e.pos; holding [v] (truthy v)) := by intro _ _; rfl) : at' C f e Q st := by
  intro P K env A s Qc E hA hE hX R k
  refine wpAny_isTrue_value (h P K env A s _ E hA hE hX R ?_) (he _ _)
  rintro a va st₁ K₁ h₁ tk₁ g₁ R₁ ra ⟨b, hb, q⟩
  exact hb P K₁ A _ va _ E (hA.le (Nat.zero_le _)) R₁.rh ra fun tk => k _ _ st₁ K₁ h₁ tk g₁ R₁ rfl q
def notQ (Q : Bool → St → Prop) (b : Bool) (st : St) : Prop := Q (!b) st
theorem at_not {e : Expr} {p : Pos} {Q : Bool → St → Prop} (h : at' C f e (notQ Q) st) : at' C f (.UnaryOp .Not e p) Q st := by
  intro P K env A s Qc E hA hE hX R k
  refine wpAny_isTrue_Not (h P K env A s _ E hA hE hX R ?_)
  rintro b c st₁ K₁ h₁ tk₁ g₁ R₁ rfl q
  exact k _ _ st₁ K₁ h₁ tk₁ g₁ R₁ rfl q
structure AndQ (C : Cx) (f : Fm) (b : Expr) (Q : Bool → St → Prop) (x : Bool) (st : St) : Prop where
  q0 : x = false → Q false st
  q1 : x = true → at' C f b Q st
theorem at_and {a b : Expr} {p : Pos} {Q : Bool → St → Prop} (h : at' C f a (AndQ C f b Q) st) : at' C f (.BoolOp .And [a, b] p) Q st := by
  intro P K env A s Qc E hA hE hX R k
  refine wpAny_isTrue_BoolOp (wpAny_allTrue_And_cons (h P K env A s _ E hA hE hX R ?_))
  rintro x c st₁ K₁ h₁ tk₁ g₁ R₁ rfl ⟨q0, q1⟩
  cases c with
  | false => exact k _ _ st₁ K₁ h₁ tk₁ g₁ R₁ rfl (q0 rfl)
  | true =>
    refine wpAny_allTrue_And_cons (q1 rfl P K₁ env A _ _ E hA hE hX R₁ ?_)
    rintro x c st₂ K₂ h₂ tk₂ g₂ R₂ rfl q
    cases c with
    | false => exact k _ _ st₂ K₂ h₂ tk₂ (g₁.trans g₂) R₂ rfl q
    | true => exact wpAny_allTrue_And_nil (k _ _ st₂ K₂ h₂ tk₂ (g₁.trans g₂) R₂ rfl q)
structure IteQ (C : Cx) (f : Fm) (a b : Expr) (Q : V → St → Prop) (x : Bool) (st : St) : Prop where
  q1 : x = true → aw C f a Q st
  q0 : x = false → aw C f b Q st
theorem aw_ite {t a b : Expr} {p : Pos} {Q : V → St → Prop} (h : at' C f t (IteQ C f a b Q) st) : aw C f (.IfExp t a b p) Q st := by
  intro P K env A s Qc E hA hE hX R k
  refine wpAny_IfExp (h P K env A s _ E hA hE hX R ?_)
  rintro x c st₁ K₁ h₁ tk₁ g₁ R₁ rfl ⟨q1, q0⟩
  cases c with
  | true => exact q1 rfl P K₁ env A _ _ E hA hE hX R₁ fun u v st₂ K₂ h₂ tk₂ g₂ R₂ r q => k u v st₂ K₂ h₂ tk₂ (g₁.trans g₂) R₂ r q
  | false => exact q0 rfl P K₁ env A _ _ E hA hE hX R₁ fun u v st₂ K₂ h₂ tk₂ g₂ R₂ r q => k u v st₂ K₂ h₂ tk₂ (g₁.trans g₂) R₂ r q

/- lists of expressions, displays -/
theorem aws_nil {Q : List V → St → Prop} (q : Q [] st) : aws C f [] Q st := fun pos P K env A s Qc E hA hE hX R k => spliced_nil (k _ _ st K s.heap s.toks (KGe.refl P K) R .nil q)
def conU (Q : List V → St → Prop) (u : V) (us : List V) (st : St) : Prop := Q (u :: us) st
def conQ (C : Cx) (f : Fm) (es : List Expr) (Q : List V → St → Prop) (u : V) (st : St) : Prop := aws C f es (conU Q u) st
theorem aws_cons {e : Expr} {es : List Expr} {Q : List V → St → Prop} (h : aw C f e (conQ C f es Q) st)
    (he : ∀ env, starEach (e :: es) env = (false, eval e env) :: starEach es env := by intro _; rfl) : aws C f (e :: es) Q st := by
  intro pos P K env A s Qc E hA hE hX R k
  show wpAny _ A (spliced (backTo pos (starEach (e :: es) env))) Qc E s
  rw [he]
  refine spliced_cons (rest := backTo pos (starEach es env)) (h P K env A s _ E hA hE hX R ?_)
  intro u v st₁ K₁ h₁ tk₁ g₁ R₁ r h2
  refine h2 pos P K₁ env A _ _ E hA hE hX R₁ ?_
  intro us vs st₂ K₂ h₂ tk₂ g₂ R₂ rs q
  exact k _ _ st₂ K₂ h₂ tk₂ (g₁.trans g₂) R₂ (.cons (r.mono g₂.le) rs) q
structure TupQ (Q : V → St → Prop) (us : List V) (st : St) : Prop where
  n : us.length ≤ 1000
  q : Q (.tup us) st
structure LisQ (Q : V → St → Prop) (us : List V) (st : St) : Prop where
  n : us.length ≤ 1000
  q : Q (.lst us) st
structure LisH (Q : V → St → Prop) (us : List V) (st : St) : Prop where
  n : us.length ≤ 1000
  q : ∀ a, st.H a = none → Q (.raw (.ref a)) { st with H := hput st.H a (.list us) }
theorem aw_tup {es : List Expr} {n : Nat} {p : Pos} {Q : V → St → Prop} (h : aws C f es (TupQ Q) st) : aw C f (.Tuple es n p) Q st := by
  intro P K env A s Qc E hA hE hX R k
  refine wpAny_Tuple_spliced (h p P K env A s _ E hA hE hX R ?_)
  rintro us vs st₁ K₁ h₁ tk₁ g₁ R₁ rs ⟨hl, q⟩
  refine ⟨by rw [← rs.length]; exact Nat.le_trans hl (by decide), ?_⟩
  obtain ⟨R₂, g₂⟩ := R₁.pushK (o := { cls := .type "tuple", data := .seq vs.toArray }) rfl
  exact k _ _ st₁ _ _ _ (g₁.trans g₂) R₂ (.tup (KM.put_self) rfl rfl (rs.mono g₂.le)) q
/-- a list display that is never changed -/
theorem aw_list {es : List Expr} {p : Pos} {Q : V → St → Prop} (h : aws C f es (LisQ Q) st) : aw C f (.List es p) Q st := by
  intro P K env A s Qc E hA hE hX R k
  refine wpAny_List_spliced (h p P K env A s _ E hA hE hX R ?_)
  rintro us vs st₁ K₁ h₁ tk₁ g₁ R₁ rs ⟨hl, q⟩
  refine ⟨by rw [← rs.length]; exact Nat.le_trans hl (by decide), ?_⟩
  obtain ⟨R₂, g₂⟩ := R₁.pushK (o := { cls := .type "list", data := .seq vs.toArray }) rfl
  exact k _ _ st₁ _ _ _ (g₁.trans g₂) R₂ (.lst (KM.put_self) rfl rfl (rs.mono g₂.le)) q
/-- a list display that may change -/
theorem aw_listH {es : List Expr} {p : Pos} {Q : V → St → Prop} (h : aws C f es (LisH Q) st) : aw C f (.List es p) Q st := by
  intro P K env A s Qc E hA hE hX R k
  refine wpAny_List_spliced (h p P K env A s _ E hA hE hX R ?_)
  rintro us vs st₁ K₁ h₁ tk₁ g₁ R₁ rs ⟨hl, q⟩
  refine ⟨by rw [← rs.length]; exact Nat.le_trans hl (by decide), ?_⟩
  obtain ⟨R₂, e₂⟩ := R₁.pushH (o := { cls := .type "list", data := .seq vs.toArray }) (a := .list us) ⟨vs.toArray, 0, rfl, by simpa using rs⟩
  exact k _ _ _ K₁ _ _ g₁ R₂ (.raw _) (q _ e₂)
end
end Mine
end

section
open PySem PySem.W PyProof.Rows PySem.Calls
set_option Elab.async false
set_option maxRecDepth 100000
set_option linter.unusedVariables false
namespace Mine

def guardP (P : KM) (wr : List Addr) (h : Heap) : KM := fun a => if a ∈ wr then h.get? a else P a
theorem guardP_in {P : KM} {wr : List Addr} {h : Heap} {a : Addr} (m : a ∈ wr) : guardP P wr h a = h.get? a := if_pos m
theorem guardP_out {P : KM} {wr : List Addr} {h : Heap} {a : Addr} (m : a ∉ wr) : guardP P wr h a = P a := if_neg m

section
variable {w : World} {P K : KM} {env : Env} {ow : Bool} {st : St} {h : Heap}
/-- b is no business of the state's -/
structure Idle (P K : KM) (env : Env) (ow : Bool) (st : St) (b : Addr) : Prop where
  p : P b = none
  k : K b = none
  h : st.H b = none
  l : b ≠ env.locals
  c : b ∉ env.cells.map (·.2)
theorem Rl.idle (R : Rl w P K env ow st h) {b : Addr} (d : h.get? b = none) : Idle P K env ow st b := by
  obtain ⟨h1, h2, h3, h4, h5⟩ := R.dead d
  refine ⟨h1, h2, h3, h4, fun hm => ?_⟩
  cases q : ow with
  | true => exact h5 q hm
  | false => obtain ⟨o, e⟩ := R.pro q b hm; rw [h1] at e; cases e
theorem Rl.guard (R : Rl w P K env ow st h) {wr : List Addr} (hw : ∀ b ∈ wr, Idle P K env ow st b) : Rl w (guardP P wr h) K env ow st h where
  rh := ⟨fun a o e => by
      by_cases m : a ∈ wr
      · rwa [guardP_in m] at e
      · rw [guardP_out m] at e; exact R.rh.prot a o e, R.rh.froz, fun a o e => by
      obtain ⟨e1, e2, e3⟩ := R.rh.objs a o e
      refine ⟨e1, ?_, e3⟩
      by_cases m : a ∈ wr
      · rw [(hw a m).h] at e; cases e
      · rw [guardP_out m]; exact e2⟩
  off := R.off
  ns := R.ns
  loc := ⟨by rw [guardP_out fun m => (hw _ m).l rfl]; exact R.loc.1, R.loc.2⟩
  cel := R.cel
  own := fun q => ⟨(R.own q).loc, fun c hc => let ⟨a, b, d⟩ := (R.own q).cel c hc; ⟨by rw [guardP_out fun m => (hw _ m).c hc]; exact a, b, d⟩, (R.own q).nod, (R.own q).has⟩
  pro := fun q c hc => by
    obtain ⟨o, e⟩ := R.pro q c hc
    exact ⟨o, by rw [guardP_out fun m => by rw [(hw _ m).p] at e; cases e]; exact e⟩
theorem Rl.weakP {P' : KM} (R : Rl w P' K env ow st h) (le : ∀ a o, P a = some o → P' a = some o) (pro : ow = false → ∀ c ∈ env.cells.map (·.2), ∃ o, P c = some o) : Rl w P K env ow st h := by
  have no : ∀ a, P' a = none → P a = none := fun a e => by
    cases q : P a with
    | none => rfl
    | some o => rw [le a o q] at e; cases e
  exact ⟨⟨fun a o e => R.rh.prot a o (le a o e), R.rh.froz, fun a o e => let ⟨e1, e2, e3⟩ := R.rh.objs a o e; ⟨e1, no a e2, e3⟩⟩, R.off, R.ns, ⟨no _ R.loc.1, R.loc.2⟩, R.cel,
    fun q => ⟨(R.own q).loc, fun c hc => let ⟨a, b, d⟩ := (R.own q).cel c hc; ⟨no c a, b, d⟩, (R.own q).nod, (R.own q).has⟩, pro⟩
theorem guard_le {wr : List Addr} (hw : ∀ b ∈ wr, P b = none) : ∀ a o, P a = some o → guardP P wr h a = some o := fun a o e => by
  rw [guardP_out fun m => by rw [hw a m] at e; cases e]; exact e
theorem guard_no {wr : List Addr} (hw : ∀ b ∈ wr, P b = none) : ∀ a, guardP P wr h a = none → P a = none := fun a e => by
  cases q : P a with
  | none => rfl
  | some o => rw [guard_le hw a o q] at e; cases e
/-- what was guarded stays no business of the state's -/
theorem Rl.idleOf {wr : List Addr} {K' : KM} {st' : St} {h' : Heap} (R : Rl w (guardP P wr h) K' env ow st' h') (g : KGe (guardP P wr h) K K') {b : Addr} (m : b ∈ wr) (hp : P b = none) (hk : K b = none) (ha : ∃ o, h.get? b = some o) (hc : b ∉ env.cells.map (·.2)) :
    Idle P K' env ow st' b := by
  obtain ⟨o, e⟩ := ha
  have e' : guardP P wr h b = some o := by rw [guardP_in m]; exact e
  refine ⟨hp, ?_, ?_, ?_, hc⟩
  · cases q : K' b with
    | none => rfl
    | some x => rcases g.2 b x q with y | y
                · rw [hk] at y; cases y
                · rw [e'] at y; cases y
  · cases q : st'.H b with
    | none => rfl
    | some x => have := (R.rh.objs b x q).2.1; rw [e'] at this; cases this
  · rintro rfl; rw [R.loc.1] at e'; cases e'
theorem Idle.mono {K' : KM} {b : Addr} (i : Idle P K env ow st b) (g : K' b = none) : Idle P K' env ow st b := ⟨i.p, g, i.h, i.l, i.c⟩
/-- more is frozen -/
theorem Rl.moreK {K' : KM} (R : Rl w P K env ow st h) (le : ∀ a o, K a = some o → K' a = some o) (fr : ∀ a o, K' a = some o → K a = some o ∨ Idle P K env ow st a) (ok : ∀ a o, K' a = some o → h.get? a = some o) : Rl w P K' env ow st h ∧ KGe P K K' := by
  have none_of : ∀ a, K a = none → ¬ Idle P K env ow st a → K' a = none := fun a e n => by
    cases q : K' a with
    | none => rfl
    | some o => rcases fr a o q with y | y
                · rw [e] at y; cases y
                · exact absurd y n
  refine ⟨⟨⟨R.rh.prot, ok, fun a o e => ?_⟩, R.off, ?_, ⟨R.loc.1, none_of _ R.loc.2 fun i => i.l rfl⟩, fun x u e k => ?_, fun q => ⟨(R.own q).loc, fun c hc => ?_, (R.own q).nod, (R.own q).has⟩, R.pro⟩, le, fun a o e => (fr a o e).imp id fun i => i.p⟩
  · obtain ⟨⟨ob, e1, r⟩, e2, e3⟩ := R.rh.objs a o e
    exact ⟨⟨ob, e1, r.mono le⟩, e2, none_of _ e3 fun i => by rw [i.h] at e; cases e⟩
  · obtain ⟨m', n, q⟩ := R.ns; exact ⟨m', n, fun x u e k => let ⟨v, e1, r⟩ := q x u e k; ⟨v, e1, r.mono le⟩⟩
  · obtain ⟨c, v, e1, e2, r⟩ := R.cel x u e k; exact ⟨c, v, e1, e2, r.mono le⟩
  · obtain ⟨e1, e2, e3⟩ := (R.own q).cel c hc; exact ⟨e1, none_of _ e2 fun i => i.c hc, e3⟩
end

/-- an iterator I over the values xs; it writes at wr alone -/
structure Wk (w : World) (A : Around) (K₀ : KM) (I : Addr) (wr : List Addr) (xs : List V) (S : Nat → Heap → Prop) (So : Nat → Value → Heap → Prop) (nm : Bool) : Prop where
  mem : I ∈ wr
  stay : ∀ i h h', S i h → (∀ b o, (b ∈ wr ∨ K₀ b ≠ none) → h.get? b = some o → h'.get? b = some o) → S i h'
  live : ∀ i h, S i h → ∀ b ∈ wr, ∃ o, h.get? b = some o
  item : ∀ i u (K : KM) (s : Shared) (Q : Option Value → Shared → Prop) (E : Value → Shared → Prop), xs[i]? = some u → S i s.heap → KLe K₀ K → (∀ a o, K a = some o → s.heap.get? a = some o) → (∀ b ∈ wr, K b = none) →
    (∀ v (K' : KM) h' tk, (∀ a o, K a = some o → K' a = some o) → (∀ a o, K' a = some o → K a = some o ∨ s.heap.get? a = none) → (∀ a o, K' a = some o → h'.get? a = some o) → So i v h' → (∀ b o, b ∉ wr → s.heap.get? b = some o → h'.get? b = some o) →
      (∀ b ∈ wr, ∃ o, h'.get? b = some o) → Rep w K' u v → Q (some v) { s with heap := h', toks := tk }) → wpAny (MM w) A (pyNext (.ref I)) Q E s
  done : ∀ (s : Shared) (Q : Option Value → Shared → Prop) (E : Value → Shared → Prop), S xs.length s.heap → (∀ h' tk, (∀ b o, b ∉ wr → s.heap.get? b = some o → h'.get? b = some o) → Q none { s with heap := h', toks := tk }) → wpAny (MM w) A (pyNext (.ref I)) Q E s
  self : ∀ i (s : Shared) (Q : Value → Shared → Prop) (E : Value → Shared → Prop), S i s.heap → Q (.ref I) s → wpAny (MM w) A (pyIter (.ref I)) Q E s
  goT : ∀ i v (s : Shared) (Q : Unit → Shared → Prop) (E : Value → Shared → Prop) elts x1 pos, So i v s.heap → (∀ h', S (i + 1) h' → (∀ b o, b ∉ wr → s.heap.get? b = some o → h'.get? b = some o) → Q () { s with heap := h' }) → wpAny (MM w) A (letOwnedTupleGo (.Tuple elts x1 pos) (.ref I) v) Q E s
  goN : nm = true → ∀ i v h, So i v h → S (i + 1) h

theorem letGo_other {M : Model} {A : Around} {E : Value → Shared → Prop} {s : Shared} {elts x1 pos} {I : Addr} {v : Value} {Q : Unit → Shared → Prop} {n : String} {vs : Array Value} {o : Obj} (ho : s.heap.get? I = some o) (hc : o.cls = .type n) (hd : o.data = .fields vs)
    (hn : (["enumerate", "zip", "dict_itemiterator", "dict_reverseitemiterator", "odict_iterator", "itertools.zip_longest", "itertools.pairwise"].contains n) = false) (h : Q () s) : wpAny M A (letOwnedTupleGo (.Tuple elts x1 pos) (.ref I) v) Q E s := by
  unfold letOwnedTupleGo
  cases v with
  | ref a =>
    refine wpAny_bind (wpAny_load ho ?_)
    rw [hc, hd]
    dsimp only
    rw [hn]
    exact wpAny_pure h
  | _ => exact wpAny_pure h

theorem Wk.of {w : World} {A : Around} {K₀ : KM} {I : Addr} {fp wr : List Addr} {n : Nat} {Pd : Nat → Value → Prop} {Sd : Nat → Heap → Prop} {xs : List V} (W : Walks Challenge.pw_pq1073_01 w A I fp wr n Pd Sd) (hl : xs.length = n) (hI : I ∈ wr)
    (hr : ∀ i u v, xs[i]? = some u → Pd i v → Rep w K₀ u v) (hf : ∀ b ∈ fp, b ∈ wr ∨ K₀ b ≠ none) (hv : ∀ i h, Sd i h → ∀ b ∈ wr, ∃ o, h.get? b = some o)
    (hg : ∀ i v (s : Shared) (Q : Unit → Shared → Prop) (E : Value → Shared → Prop) elts x1 pos, Sd (i + 1) s.heap → Q () s → wpAny (MM w) A (letOwnedTupleGo (.Tuple elts x1 pos) (.ref I) v) Q E s) :
    Wk w A K₀ I wr xs Sd (fun i _ h => Sd (i + 1) h) true where
  mem := hI
  stay := fun i h h' st k => W.frame i h h' st fun b hb o e => k b o (hf b hb) e
  live := hv
  item := fun i u K s Q E hx st le ok nw hQ => W.item i s Q E (by rw [← hl]; exact (List.getElem?_eq_some_iff.mp hx).1) st fun v h' tk p st' kp =>
    hQ v K h' tk (fun _ _ e => e) (fun _ _ e => .inl e) (fun a o e => kp a o (fun m => by rw [nw a m] at e; cases e) (ok a o e)) st' kp (hv _ _ st') ((hr i u v hx p).mono le)
  done := fun s Q E st hQ => W.done s Q E (hl ▸ st) hQ
  self := W.self
  goT := fun i v s Q E elts x1 pos st hQ => hg i v s Q E elts x1 pos st (hQ _ st fun _ _ _ e => e)
  goN := fun _ i v h st => st

theorem wk_list {w : World} {A : Around} {K₀ : KM} {I l : Addr} {ws : List Value} {xs : List V} (hh : A.handled = none) (hne : l ≠ I) (hk : K₀ l ≠ none) (rs : Reps w K₀ xs ws) :
    Wk w A K₀ I [I] xs (fun i h => h.IsListIter I l i ∧ h.IsList l ws.toArray) (fun i _ h => h.IsListIter I l (i + 1) ∧ h.IsList l ws.toArray) true :=
  Wk.of (Walks.list (prog := Challenge.pw_pq1073_01) hh I l hne ws.toArray) (by simpa using rs.length) (by simp)
    (fun i u v e p => by obtain ⟨v', e', r⟩ := rs.get e; have : v' = v := by simpa [e'] using p
                         exact this ▸ r)
    (fun b hb => by simp at hb; rcases hb with rfl | rfl; · simp
                    · exact .inr hk)
    (fun i h st b hb => by simp at hb; subst hb; obtain ⟨o, e, _⟩ := st.1; exact ⟨o, e⟩)
    (fun i v s Q E elts x1 pos st hQ => by obtain ⟨o, e, c, d⟩ := st.1; exact letGo_other e c d (by decide) hQ)
theorem wk_tuple {w : World} {A : Around} {K₀ : KM} {I l : Addr} {ws : List Value} {xs : List V} (hh : A.handled = none) (hne : l ≠ I) (hk : K₀ l ≠ none) (rs : Reps w K₀ xs ws) :
    Wk w A K₀ I [I] xs (fun i h => h.IsTupleIter I l i ∧ h.IsTuple l ws.toArray) (fun i _ h => h.IsTupleIter I l (i + 1) ∧ h.IsTuple l ws.toArray) true :=
  Wk.of (Walks.tuple (prog := Challenge.pw_pq1073_01) hh I l hne ws.toArray) (by simpa using rs.length) (by simp)
    (fun i u v e p => by obtain ⟨v', e', r⟩ := rs.get e; have : v' = v := by simpa [e'] using p
                         exact this ▸ r)
    (fun b hb => by simp at hb; rcases hb with rfl | rfl; · simp
                    · exact .inr hk)
    (fun i h st b hb => by simp at hb; subst hb; obtain ⟨o, e, _⟩ := st.1; exact ⟨o, e⟩)
    (fun i v s Q E elts x1 pos st hQ => by obtain ⟨o, e, c, d⟩ := st.1; exact letGo_other e c d (by decide) hQ)
def rangeV (a c : Int) (n : Nat) : List V := (List.range n).map fun i => V.int (a + (i : Nat) * c)
theorem wk_range {w : World} {A : Around} {K₀ : KM} {I : Addr} {a c : Int} {n : Nat} (hh : A.handled = none) :
    Wk w A K₀ I [I] (rangeV a c n) (fun i h => IsRangeIter h I (a + (i : Nat) * c) ((n : Int) - (i : Nat)) c) (fun i _ h => IsRangeIter h I (a + ((i + 1 : Nat) : Nat) * c) ((n : Int) - ((i + 1 : Nat) : Nat)) c) true :=
  Wk.of (Walks.range (prog := Challenge.pw_pq1073_01) hh I a c n) (by simp [rangeV]) (by simp)
    (fun i u v e p => by
      obtain ⟨t, rfl⟩ := p
      simp only [rangeV, List.getElem?_map] at e
      cases q : (List.range n)[i]? with
      | none => rw [q] at e; cases e
      | some j => rw [q] at e
                  obtain ⟨hlt, rfl⟩ := List.getElem?_eq_some_iff.mp q
                  simp only [List.getElem_range, Option.map_some, Option.some.injEq] at e
                  subst e; exact .int _ _)
    (fun b hb => .inl hb)
    (fun i h st b hb => by simp at hb; subst hb; exact ⟨_, st⟩)
    (fun i v s Q E elts x1 pos st hQ => letGo_other st rfl rfl (by decide) hQ)
end Mine
end

section
open PySem PySem.W PyProof.Rows PySem.Calls
set_option Elab.async false
set_option maxRecDepth 100000
set_option linter.unusedVariables false
namespace Mine
section
variable (C : Cx) (f : Fm)
/-- e, and then its iterator: it goes over xs -/
def awI (e : Expr) (Q : List V → Bool → St → Prop) (st : St) : Prop :=
  ∀ (P K : KM) (env : Env) (A : Around) (s : Shared) (Qc : Value → Shared → Prop) (E : Value → Shared → Prop), Okd A f.d → EnvOk f env → Ext C.hb P → Rl C.w P K env f.ow st s.heap →
    (∀ xs nm st' (K' : KM) h' tk I wr S So, KGe P K K' → Rl C.w P K' env f.ow st' h' → Wk C.w A K' I wr xs S So nm → S 0 h' → (∀ b ∈ wr, Idle P K' env f.ow st' b) → Q xs nm st' → Qc (.ref I) { s with heap := h', toks := tk }) →
    wpAny (MM C.w) A (eval e env) (fun x s₁ => wpAny (MM C.w) A (pyIter x) Qc E s₁) E s
def ax1 (b : Stmt) (Q : Fl → St → Prop) (st : St) : Prop := aT C f (FRep C.w) (exec b) Q st
end
section
variable {C : Cx} {f : Fm} {st : St}

inductive LstI (Q : List V → Bool → St → Prop) (u : V) (st : St) : Prop
  | mk (xs : List V) (e : u = .lst xs) (q : Q xs true st)
inductive TupI (Q : List V → Bool → St → Prop) (u : V) (st : St) : Prop
  | mk (xs : List V) (e : u = .tup xs) (q : Q xs true st)
theorem awI_lst {e : Expr} {Q : List V → Bool → St → Prop} (h : aw C f e (LstI Q) st) : awI C f e Q st := by
  intro P K env A s Qc E hA hE hX R k
  refine h P K env A s _ E hA hE hX R ?_
  rintro u v st₁ K₁ h₁ tk₁ g₁ R₁ r ⟨xs, rfl, q⟩
  obtain ⟨a, o, ws, n, rfl, hk, hc, hd, rs⟩ := r.lst'
  have hl : h₁.IsList a ws.toArray := ⟨o, R₁.rh.froz _ _ hk, hc, n, hd⟩
  have ne : a ≠ h₁.objs.size := Nat.ne_of_lt (Heap.lt_size (R₁.rh.froz _ _ hk))
  refine wpAny_pyIter_list hl ?_
  have R₂ := R₁.push { cls := .type "list_iterator", data := .fields #[.ref a, .int 0 0] }
  exact k _ _ st₁ K₁ _ _ _ [h₁.objs.size] _ _ g₁ R₂ (wk_list hA.hh ne (by rw [hk]; simp) rs) ⟨⟨_, Heap.get?_push_size _ rfl, rfl, rfl⟩, _, Heap.get?_push_of_some _ (R₁.rh.froz _ _ hk), hc, n, hd⟩
    (fun b hb => by simp at hb; subst hb; exact R₁.idle (get_size h₁)) q
theorem awI_tup {e : Expr} {Q : List V → Bool → St → Prop} (h : aw C f e (TupI Q) st) : awI C f e Q st := by
  intro P K env A s Qc E hA hE hX R k
  refine h P K env A s _ E hA hE hX R ?_
  rintro u v st₁ K₁ h₁ tk₁ g₁ R₁ r ⟨xs, rfl, q⟩
  obtain ⟨a, o, ws, n, rfl, hk, hc, hd, rs⟩ := r.tup'
  have hl : h₁.IsTuple a ws.toArray := ⟨o, R₁.rh.froz _ _ hk, hc, n, hd⟩
  have ne : a ≠ h₁.objs.size := Nat.ne_of_lt (Heap.lt_size (R₁.rh.froz _ _ hk))
  refine wpAny_pyIter_tuple hl ?_
  have R₂ := R₁.push { cls := .type "tuple_iterator", data := .fields #[.ref a, .int 0 0] }
  exact k _ _ st₁ K₁ _ _ _ [h₁.objs.size] _ _ g₁ R₂ (wk_tuple hA.hh ne (by rw [hk]; simp) rs) ⟨⟨_, Heap.get?_push_size _ rfl, rfl, rfl⟩, _, Heap.get?_push_of_some _ (R₁.rh.froz _ _ hk), hc, n, hd⟩
    (fun b hb => by simp at hb; subst hb; exact R₁.idle (get_size h₁)) q

/- statements -/
theorem ax_nil {Q : Fl → St → Prop} (q : Q .next st) : ax C f [] Q st := fun P K env A s Qc E hA hE hX R k => wpAny_execs_nil (k _ _ st K s.heap s.toks (KGe.refl P K) R .next q)
def nx (C : Cx) (f : Fm) (bs : List Stmt) (Q : Fl → St → Prop) (fl : Fl) (st : St) : Prop := match fl with
  | .next => ax C f bs Q st
  | fl => Q fl st
theorem ax_cons {b : Stmt} {bs : List Stmt} {Q : Fl → St → Prop} (h : ax1 C f b (nx C f bs Q) st) : ax C f (b :: bs) Q st := by
  intro P K env A s Qc E hA hE hX R k
  refine wpAny_execs_cons (h P K env A s _ E hA hE hX R ?_)
  intro u v st₁ K₁ h₁ tk₁ g₁ R₁ r q
  cases r with
  | next => exact q P K₁ env A _ _ E hA hE hX R₁ fun u v st₂ K₂ h₂ tk₂ g₂ R₂ r q => k u v st₂ K₂ h₂ tk₂ (g₁.trans g₂) R₂ r q
  | brk => exact k _ _ st₁ K₁ h₁ tk₁ g₁ R₁ .brk q
  | cont => exact k _ _ st₁ K₁ h₁ tk₁ g₁ R₁ .cont q
  | ret r => exact k _ _ st₁ K₁ h₁ tk₁ g₁ R₁ (.ret r) q
def retQ (Q : Fl → St → Prop) (u : V) (st : St) : Prop := Q (.ret u) st
theorem ax1_ret {e : Expr} {p : Pos} {Q : Fl → St → Prop} (h : aw C f e (retQ Q) st) : ax1 C f (.Return (some e) p) Q st := by
  intro P K env A s Qc E hA hE hX R k
  refine wpAny_Return_some (h P K env A s _ E hA hE hX R ?_)
  intro u v st₁ K₁ h₁ tk₁ g₁ R₁ r q
  exact k _ _ st₁ K₁ h₁ tk₁ g₁ R₁ (.ret r) q
structure IfQ (C : Cx) (f : Fm) (b o : List Stmt) (Q : Fl → St → Prop) (x : Bool) (st : St) : Prop where
  q1 : x = true → ax C f b Q st
  q0 : x = false → ax C f o Q st
theorem ax1_if {t : Expr} {b o : List Stmt} {p : Pos} {Q : Fl → St → Prop} (h : at' C f t (IfQ C f b o Q) st) : ax1 C f (.If t b o p) Q st := by
  intro P K env A s Qc E hA hE hX R k
  refine wpAny_If (h P K env A s _ E hA hE hX R ?_)
  rintro x c st₁ K₁ h₁ tk₁ g₁ R₁ rfl ⟨q1, q0⟩
  cases c with
  | true => exact q1 rfl P K₁ env A _ _ E hA hE hX R₁ fun u v st₂ K₂ h₂ tk₂ g₂ R₂ r q => k u v st₂ K₂ h₂ tk₂ (g₁.trans g₂) R₂ r q
  | false => exact q0 rfl P K₁ env A _ _ E hA hE hX R₁ fun u v st₂ K₂ h₂ tk₂ g₂ R₂ r q => k u v st₂ K₂ h₂ tk₂ (g₁.trans g₂) R₂ r q
def nexQ (Q : Fl → St → Prop) (_ : V) (st : St) : Prop := Q .next st
theorem ax1_expr {e : Expr} {p : Pos} {Q : Fl → St → Prop} (h : aw C f e (nexQ Q) st) (hi : ∀ env : Env, env.scope = f.sc → interactive env = false) (hs : ∀ env, swapsWith e none p.line env = pure false := by intro _; rfl) : ax1 C f (.Expr e p) Q st := by
  intro P K env A s Qc E hA hE hX R k
  refine wpAny_Expr_any (h P K env A s _ E hA hE hX R ?_) (hi env hE.sc) (hs env)
  intro u v st₁ K₁ h₁ tk₁ g₁ R₁ r q
  exact k _ _ st₁ K₁ h₁ tk₁ g₁ R₁ .next q
def asQ (C : Cx) (f : Fm) (t : Expr) (Q : Fl → St → Prop) (u : V) (st : St) : Prop := aas C f t u (Q .next) st
theorem ax1_assign {t e : Expr} {p : Pos} {Q : Fl → St → Prop} (h : aw C f e (asQ C f t Q) st)
    (hs : ∀ env, swapsWithSole [t] e p.line env = pure false := by intro _; rfl) (hw : ∀ env, swappedStores [t] e env = pure none := by intro _; rfl) (ha : ∀ env, assignEach [t] env = [(false, assign t env)] := by intro _; rfl) : ax1 C f (.Assign [t] e p) Q st := by
  intro P K env A s Qc E hA hE hX R k
  refine wpAny_Assign_stores (h P K env A s _ E hA hE hX R ?_) (hs env) (hw env)
  intro u v st₁ K₁ h₁ tk₁ g₁ R₁ r q
  show wpAny _ _ (assignAll v ((assignEach [t] env).map (·.2))) _ _ _
  rw [ha env]
  refine q P K₁ env A _ v _ E hA hE hX R₁ r ?_
  intro st₂ K₂ h₂ tk₂ g₂ R₂ q
  exact k _ _ st₂ K₂ h₂ tk₂ (g₁.trans g₂) R₂ .next q

/- targets -/
theorem aas_local {x : Str} {p : Pos} {u : V} {Q : St → Prop} (q : Q { st with m := mput st.m x u }) (hk : f.sc.names.lookup x = some .local := by rfl) : aas C f (.Name x p) u Q st := by
  intro P K env A s v Qc E hA hE hX R r k
  have hk' : env.kindOf x = some .local := by rw [hE.kindOf]; exact hk
  obtain ⟨m', n, h⟩ := R.ns
  refine wpAny_assign_Name (wpAny_storeName_local hk' n (fun h' hn hs => ?_) (by rw [hE.kind]; rfl))
  exact k _ K h' _ (KGe.refl P K) (R.local h hk' r hn hs) q
theorem aas_cell {x : Str} {p : Pos} {u : V} {Q : St → Prop} (q : Q { st with m := mput st.m x u }) (hw : f.ow = true := by rfl) (hk : f.sc.names.lookup x = some .cell := by rfl) : aas C f (.Name x p) u Q st := by
  intro P K env A s v Qc E hA hE hX R r k
  have hk' : env.kindOf x = some .cell := by rw [hE.kindOf]; exact hk
  rw [hw] at R
  obtain ⟨c, ec⟩ := Option.isSome_iff_exists.mp ((R.own rfl).has x hk')
  obtain ⟨_, _, v₀, i⟩ := (R.own rfl).cel c (mem_cells ec)
  refine wpAny_assign_Name (wpAny_storeName_cell hE.kind hk' ec i fun h' hn hs => ?_)
  exact k _ K h' _ (KGe.refl P K) (by rw [hw]; exact R.cell hk' ec r hn hs) q

/-- a list of targets, one after another -/
def aasL (C : Cx) (f : Fm) : List Expr → List V → (St → Prop) → St → Prop
  | [], _, Q, st => Q st
  | t :: ts, u :: us, Q, st => aas C f t u (aasL C f ts us Q) st
  | _ :: _, [], Q, st => Q st
theorem aasL_sound {ts : List Expr} {us : List V} {Q : St → Prop} (h : aasL C f ts us Q st) (P K : KM) (env : Env) (A : Around) (s : Shared) (vs : List Value) (Qc : Unit → Shared → Prop) (E : Value → Shared → Prop) (hA : Okd A f.d) (hE : EnvOk f env) (hX : Ext C.hb P)
    (R : Rl C.w P K env f.ow st s.heap) (r : Reps C.w K us vs) (k : ∀ st' K' h' tk, KGe P K K' → Rl C.w P K' env f.ow st' h' → Q st' → Qc () { s with heap := h', toks := tk }) :
    wpAny (MM C.w) A (assignInOrder (ts.map fun t => assign t env) vs) Qc E s := by
  induction ts generalizing us vs st K s with
  | nil =>
    have : assignInOrder (([] : List Expr).map fun t => assign t env) vs = pure () := by cases vs <;> rfl
    rw [this]
    exact wpAny_pure (k st K s.heap s.toks (KGe.refl P K) R h)
  | cons t ts ih =>
    cases r with
    | nil =>
      exact wpAny_pure (k st K s.heap s.toks (KGe.refl P K) R h)
    | cons r rs =>
      refine wpAny_assignInOrder_more (h P K env A s _ _ E hA hE hX R r ?_)
      intro st₁ K₁ h₁ tk₁ g₁ R₁ q
      exact ih q K₁ _ _ R₁ (rs.mono g₁.le) fun st₂ K₂ h₂ tk₂ g₂ R₂ q => k st₂ K₂ h₂ tk₂ (g₁.trans g₂) R₂ q
theorem aas_tup {ts : List Expr} {n : Nat} {p : Pos} {us : List V} {Q : St → Prop} (h : aasL C f ts us Q st) (hn : ts.length = us.length) (ha : ∀ env, assignEach ts env = ts.map fun t => (false, assign t env) := by intro _; rfl) : aas C f (.Tuple ts n p) (.tup us) Q st := by
  intro P K env A s v Qc E hA hE hX R r k
  obtain ⟨a, o, ws, n', rfl, hk, hc, hd, rs⟩ := r.tup'
  refine wpAny_assign_Tuple hA.hh (items := ws.toArray) ⟨o, R.rh.froz _ _ hk, hc, n', hd⟩ (by rw [ha]; simp [hn, rs.length]) (by rw [ha]; simp) fun h' he => ?_
  rw [ha, List.map_map]
  refine aasL_sound h P K env A _ ws Qc E hA hE hX (R.grow fun b o e => he b o (Nat.ne_of_lt (Heap.lt_size e)) e) rs ?_
  intro st₁ K₁ h₁ tk₁ g₁ R₁ q
  exact k st₁ K₁ h₁ tk₁ g₁ R₁ q

/- for -/
/-- the end of a turn -/
def lpQ (I : St → Prop) (Q : Fl → St → Prop) (fl : Fl) (st : St) : Prop := match fl with
  | .next => I st
  | .cont => I st
  | .brk => Q .next st
  | .ret r => Q (.ret r) st
def bodQ (C : Cx) (f : Fm) (body : List Stmt) (I : St → Prop) (Q : Fl → St → Prop) (st : St) : Prop := ax C f body (lpQ I Q) st
inductive ForQ (C : Cx) (f : Fm) (t : Expr) (body : List Stmt) (Q : Fl → St → Prop) (xs : List V) (nm : Bool) (st : St) : Prop
  | mk (tg : (∃ a b c, t = .Tuple a b c) ∨ ((∃ a b, t = .Name a b) ∧ nm = true)) (Inv : Nat → St → Prop) (i0 : Inv 0 st)
      (turn : ∀ i u st₂, xs[i]? = some u → Inv i st₂ → aas C f t u (bodQ C f body (Inv (i + 1)) Q) st₂) (done : ∀ st₂, Inv xs.length st₂ → Q .next st₂)
theorem ax1_for {t it : Expr} {body : List Stmt} {p : Pos} {Q : Fl → St → Prop}
    (h : awI C f it (ForQ C f t body Q) st)
    (hs : ∀ env x, foldedSetIterable it env x = pure x := by intro _ _; rfl) : ax1 C f (.For t it body [] p) Q st := by
  intro P K env A s Qc E hA hE hX R k
  refine wpAny_For (h P K env A s _ E hA hE hX R ?_) (hs env)
  rintro xs nm st₁ K₁ h₁ tk₁ I wr S So g₁ R₁ W s0 idl ⟨htg, Inv, i0, turn, done⟩
  refine codeAny_forLoop_any (R := fun r s' => match r with | .ok f => Qc f s' | .error e => cameBackBy (MM C.w) A env E e s')
    (fun n s' => ∃ i st₂ K₂ h₂ tk₂, n = xs.length + 1 - i ∧ i ≤ xs.length ∧ s' = { s with heap := h₂, toks := tk₂ } ∧ (∀ a o, K₁ a = some o → K₂ a = some o) ∧ KGe P K K₂ ∧ Rl C.w P K₂ env f.ow st₂ h₂ ∧ S i h₂ ∧ (∀ b ∈ wr, Idle P K₂ env f.ow st₂ b) ∧ Inv i st₂)
    ?_ (xs.length + 1) ⟨0, st₁, K₁, h₁, tk₁, by (first | lia | omega), by (first | lia | omega), rfl, fun _ _ e => e, g₁, R₁, s0, idl, i0⟩
  rintro n s' ⟨i, st₂, K₂, h₂, tk₂, rfl, hi, rfl, le₂, g₂, R₂, si, idl₂, inv⟩
  by_cases hlt : i < xs.length
  · refine W.item i xs[i] K₂ _ _ _ (by simp [hlt]) si le₂ R₂.rh.froz (fun b hb => (idl₂ b hb).k) ?_
    intro v K₃ h₃ tk₃ le₃ fr₃ ok₃ so kp₃ lv₃ rv
    -- the item is drawn
    have R₂' : Rl C.w P K₂ env f.ow st₂ h₃ := R₂.keep fun a o hm e => kp₃ a o (fun m => by
      have i := idl₂ a m
      rcases hm with q | q | q | q | ⟨_, q⟩
      · exact q i.p
      · exact q i.k
      · exact q i.h
      · exact i.l q
      · exact i.c q) e
    have fr₃' : ∀ a o, K₃ a = some o → K₂ a = some o ∨ Idle P K₂ env f.ow st₂ a := fun a o e => (fr₃ a o e).imp id fun d => R₂.idle d
    obtain ⟨R₃, g₃⟩ := R₂'.moreK le₃ fr₃' ok₃
    have idl₃ : ∀ b ∈ wr, Idle P K₃ env f.ow st₂ b := fun b hb => (idl₂ b hb).mono (by
      cases q : K₃ b with
      | none => rfl
      | some o => rcases fr₃ b o q with y | y
                  · rw [(idl₂ b hb).k] at y; cases y
                  · obtain ⟨o', e'⟩ := W.live i _ si b hb; rw [e'] at y; cases y)
    have go : ∀ (Qg : Unit → Shared → Prop) (Eg : Value → Shared → Prop), (∀ h₄, S (i + 1) h₄ → (∀ b o, b ∉ wr → h₃.get? b = some o → h₄.get? b = some o) → Qg () { s with heap := h₄, toks := tk₃ }) →
        wpAny (MM C.w) A (letOwnedTupleGo t (.ref I) v) Qg Eg { s with heap := h₃, toks := tk₃ } := fun Qg Eg hq => by
      rcases htg with ⟨a, b, c, rfl⟩ | ⟨⟨a, b, rfl⟩, nm1⟩
      · exact W.goT i v _ Qg Eg a b c so fun h' s' kp' => hq h' s' kp'
      · exact wpAny_pure (hq h₃ (W.goN nm1 i v h₃ so) fun _ _ _ e => e)
    refine go _ _ fun h₄ s4 kp₄ => ?_
    have R₄ : Rl C.w P K₃ env f.ow st₂ h₄ := R₃.keep fun a o hm e => kp₄ a o (fun m => by
      have i := idl₃ a m
      rcases hm with q | q | q | q | ⟨_, q⟩
      · exact q i.p
      · exact q i.k
      · exact q i.h
      · exact i.l q
      · exact i.c q) e
    have gp : ∀ b ∈ wr, P b = none := fun b hb => (idl₃ b hb).p
    have RG := R₄.guard idl₃
    refine turn i xs[i] st₂ (by simp [hlt]) inv (guardP P wr h₄) K₃ env A _ v _ _ hA hE (fun a o e => guard_le gp a o (hX a o e)) RG rv ?_
    intro st₅ K₅ h₅ tk₅ g₅ R₅ q
    refine q (guardP P wr h₄) K₅ env A _ _ _ hA hE (fun a o e => guard_le gp a o (hX a o e)) R₅ ?_
    intro fl flv st₆ K₆ h₆ tk₆ g₆ R₆ rf q
    have gg := g₅.trans g₆
    have R₇ : Rl C.w P K₆ env f.ow st₆ h₆ := R₆.weakP (guard_le gp) R.pro
    have G : KGe P K K₆ := (g₂.trans g₃).trans (gg.lessP (guard_no gp))
    have again : Inv (i + 1) st₆ → ∃ m, m < xs.length + 1 - i ∧ ∃ i st₂ K₂ h₂ tk₂, m = xs.length + 1 - i ∧ i ≤ xs.length ∧ ({ s with heap := h₆, toks := tk₆ } : Shared) = { s with heap := h₂, toks := tk₂ } ∧ (∀ a o, K₁ a = some o → K₂ a = some o) ∧ KGe P K K₂ ∧ Rl C.w P K₂ env f.ow st₂ h₂ ∧ S i h₂ ∧ (∀ b ∈ wr, Idle P K₂ env f.ow st₂ b) ∧ Inv i st₂ := fun inv' => by
      refine ⟨xs.length + 1 - (i + 1), by (first | lia | omega), i + 1, st₆, K₆, h₆, tk₆, rfl, by (first | lia | omega), rfl, fun a o e => gg.le a o (le₃ a o (le₂ a o e)), G, R₇, ?_, fun b hb => ?_, inv'⟩
      · refine W.stay (i + 1) h₄ h₆ s4 fun b o hb e => ?_
        by_cases m : b ∈ wr
        · exact R₆.rh.prot b o (by rw [guardP_in m]; exact e)
        · rcases hb with hb | hb
          · exact absurd hb m
          · cases q : K₁ b with
            | none => exact absurd q hb
            | some o' =>
              have e1 := le₃ b o' (le₂ b o' q)
              have e2 := R₄.rh.froz b o' e1
              rw [e] at e2; cases e2
              exact R₆.rh.froz b o (gg.le b o e1)
      · exact R₆.idleOf gg hb (gp b hb) (idl₃ b hb).k (W.live (i + 1) h₄ s4 b hb) (idl₃ b hb).c
    cases rf with
    | next => exact again q
    | cont => exact again q
    | brk => exact k _ _ st₆ K₆ h₆ tk₆ G R₇ .next q
    | ret r => exact k _ _ st₆ K₆ h₆ tk₆ G R₇ (.ret r) q
  · have : i = xs.length := by (first | lia | omega)
    subst this
    refine W.done _ _ _ si fun h' tk' kp => ?_
    refine wpAny_execs_nil ?_
    have R₃ : Rl C.w P K₂ env f.ow st₂ h' := R₂.keep fun a o hm e => kp a o (fun m => by
      have i := idl₂ a m
      rcases hm with q | q | q | q | ⟨_, q⟩
      · exact q i.p
      · exact q i.k
      · exact q i.h
      · exact i.l q
      · exact i.c q) e
    exact k _ _ st₂ K₂ h' tk' g₂ R₃ .next (done st₂ inv)

/- while -/
structure WhQ (C : Cx) (f : Fm) (body : List Stmt) (I : St → Prop) (Q : Fl → St → Prop) (b : Bool) (st : St) : Prop where
  q1 : b = true → ax C f body (lpQ I Q) st
  q0 : b = false → Q .next st
theorem ax1_while {t : Expr} {body : List Stmt} {p : Pos} {Q : Fl → St → Prop} (Inv : Nat → St → Prop) (n : Nat) (h0 : Inv n st)
    (turn : ∀ n st₁, Inv n st₁ → at' C f t (WhQ C f body (fun st₃ => ∃ m, m < n ∧ Inv m st₃) Q) st₁) :
    ax1 C f (.While t body [] p) Q st := by
  intro P K env A s Qc E hA hE hX R k
  refine wpAny_While (codeAny_whileLoop (R := fun r s' => match r with | .ok f => Qc f s' | .error e => cameBackBy (MM C.w) A env E e s')
    (fun n s' => ∃ st₂ K₂ h₂ tk₂, s' = { s with heap := h₂, toks := tk₂ } ∧ KGe P K K₂ ∧ Rl C.w P K₂ env f.ow st₂ h₂ ∧ Inv n st₂) ?_ n ⟨st, K, s.heap, s.toks, rfl, KGe.refl P K, R, h0⟩)
  rintro n s' ⟨st₂, K₂, h₂, tk₂, rfl, g₂, R₂, inv⟩
  refine turn n st₂ inv P K₂ env A _ _ _ hA hE hX R₂ ?_
  rintro b c st₃ K₃ h₃ tk₃ g₃ R₃ rfl ⟨q1, q0⟩
  cases c with
  | true =>
    refine q1 rfl P K₃ env A _ _ _ hA hE hX R₃ ?_
    intro fl flv st₄ K₄ h₄ tk₄ g₄ R₄ rf q
    have G := (g₂.trans g₃).trans g₄
    cases rf with
    | next => obtain ⟨m, hm, inv'⟩ := q; exact ⟨m, hm, st₄, K₄, h₄, tk₄, rfl, G, R₄, inv'⟩
    | cont => obtain ⟨m, hm, inv'⟩ := q; exact ⟨m, hm, st₄, K₄, h₄, tk₄, rfl, G, R₄, inv'⟩
    | brk => exact k _ _ st₄ K₄ h₄ tk₄ G R₄ .next q
    | ret r => exact k _ _ st₄ K₄ h₄ tk₄ G R₄ (.ret r) q
  | false => exact wpAny_execs_nil (k _ _ st₃ K₃ h₃ tk₃ (g₂.trans g₃) R₃ .next (q0 rfl))
end
end Mine
end

section
open PySem PySem.W PyProof.Rows PySem.Calls
set_option Elab.async false
set_option maxRecDepth 100000
set_option linter.unusedVariables false
set_option linter.unnecessarySimpa false
namespace Mine

/-- calling fv with the values us in a heap that bears H -/
def Fn (C : Cx) (d : Nat) (fv : Value) (us : List V) (H : Addr → Option AO) (Q : V → (Addr → Option AO) → Prop) : Prop :=
  ∀ (P K : KM) (A : Around) (s : Shared) (vs : List Value) (Qc : Value → Shared → Prop) (E : Value → Shared → Prop), Okc A d → Ext C.hb P → RH C.w P K H s.heap → Reps C.w K us vs →
    (∀ u v H' K' h' tk, KGe P K K' → RH C.w P K' H' h' → Rep C.w K' u v → Q u H' → Qc v { s with heap := h', toks := tk }) → wpAny (MM C.w) A (call fv vs) Qc E s
theorem Fn.le {C : Cx} {d e : Nat} {fv : Value} {us : List V} {H : Addr → Option AO} {Q : V → (Addr → Option AO) → Prop} (h : Fn C d fv us H Q) (le : d ≤ e) : Fn C e fv us H Q :=
  fun P K A s vs Qc E hA => h P K A s vs Qc E (hA.le le)
theorem Fn.mono {C : Cx} {d : Nat} {fv : Value} {us : List V} {H : Addr → Option AO} {Q Q' : V → (Addr → Option AO) → Prop} (h : Fn C d fv us H Q) (q : ∀ u H', Q u H' → Q' u H') : Fn C d fv us H Q' :=
  fun P K A s vs Qc E hA hX R r k => h P K A s vs Qc E hA hX R r fun u v H' K' h' tk g R' r' q' => k u v H' K' h' tk g R' r' (q u H' q')

/-- what callWith asks of a callable -/
def Keeps1 (C : Cx) (fv : Value) : Prop := ∀ h : Heap, C.hb.StaysIn h → ∃ k, (k = Keeper.frame ∨ k = Keeper.machine ∨ k = Keeper.boundFrame) ∧ Looks (MM C.w) h (keeperOf fv) k
theorem keeps1_builtin {C : Cx} {id : String} : Keeps1 C (.builtin id) := fun h _ => ⟨.machine, .inr (.inl rfl), Looks.of_pure rfl⟩
theorem keeps1_type {C : Cx} {n : String} : Keeps1 C (.type n) := fun h _ => ⟨.machine, .inr (.inl rfl), Looks.of_pure rfl⟩
theorem keeps1_ref {C : Cx} {a : Addr} (hk : keepIn (frK C.w.params) (.ref a) = true) : Keeps1 C (.ref a) := fun h hs => keeps_K (M := MM C.w) hk h (C.X.keeps hs)

def plainArgs (es : List Expr) (env : Env) : List (Bool × Sem Value) := es.map fun e => (false, eval e env)
theorem backTo_plain (es : List Expr) (env : Env) (pos : Pos) : backTo pos (plainArgs es env) = plainArgs es env := by
  unfold backTo plainArgs
  induction es with
  | nil => rfl
  | cons e es ih => simp only [List.map_cons, Bool.false_eq_true, if_false]; exact congrArg _ ih
theorem plain_any (es : List Expr) (env : Env) : (plainArgs es env).any (·.1) = false := by
  unfold plainArgs; induction es with
  | nil => rfl
  | cons e es ih => simpa using ih
theorem evalArgs_nil' {M : Model} {A : Around} {E : Value → Shared → Prop} {s : Shared} {fv : Value} {Q : Args → Shared → Prop} (h : wpAny M A (spliced []) (fun vs s' => Q ⟨vs, []⟩ s') E s) : wpAny M A (evalArgs fv true [] []) Q E s := by
  unfold evalArgs
  show wpAny M A (spliced [] >>= _) Q E s
  refine wpAny_bind (wpAny_mono h (fun vs s' h' => wpAny_bind (wpAny_pure ?_)) fun _ _ x => x)
  refine wpAny_holding ?_
  exact wpAny_bind (wpAny_pure (wpAny_bind (wpAny_pure (wpAny_pure h'))))
theorem wp_callWith {C : Cx} {A : Around} {E : Value → Shared → Prop} {s : Shared} {pos : Pos} {fv : Value} {first : List Value} {es : List Expr} {env : Env} {Q : Value → Shared → Prop} (hk : Keeps1 C fv)
    (h : wpAny (MM C.w) A (spliced (plainArgs es env)) (fun vs s₁ => C.hb.StaysIn s₁.heap ∧ wpAny (MM C.w) A (call fv (first ++ vs)) Q E s₁) E s) : wpAny (MM C.w) A (callWith pos fv first (plainArgs es env) []) Q E s := by
  refine callWith_of (P := fun h => C.hb.StaysIn h) (by rw [plain_any]; rfl) (fun h x => hk h x) ?_
  cases es with
  | nil => exact evalArgs_nil' h
  | cons e es => exact evalArgs_plain h

section
variable {C : Cx} {f : Fm} {st : St}
/-- the end of a call, seen from the caller's frame -/
theorem Fn.use {fv : Value} {us : List V} {Q : V → St → Prop} {P K : KM} {env : Env} {A : Around} {s : Shared} {vs : List Value} {Qc : Value → Shared → Prop} {E : Value → Shared → Prop} (h : Fn C f.d fv us st.H (fun u H' => Q u { st with H := H' })) (hA : Okd A f.d) (hX : Ext C.hb P)
    (R : Rl C.w P K env f.ow st s.heap) (r : Reps C.w K us vs) (k : ∀ u v st' K' h' tk, KGe P K K' → Rl C.w P K' env f.ow st' h' → Rep C.w K' u v → Q u st' → Qc v { s with heap := h', toks := tk }) : wpAny (MM C.w) A (call fv vs) Qc E s := by
  obtain ⟨R', le⟩ := R.enter
  refine h (shut st.H s.heap) K A s vs Qc E hA.toOkc (fun a o e => le a o (hX a o e)) R' r ?_
  intro u v H' K' h' tk g R₁ r₁ q
  obtain ⟨R₂, g₂⟩ := R.back g R₁
  exact k u v _ K' h' tk g₂ R₂ r₁ q

theorem aws_plain {es : List Expr} {Q : List V → St → Prop} (h : aws C f es Q st) (he : ∀ env, starEach es env = plainArgs es env) : aT C f (Reps C.w) (fun env => spliced (plainArgs es env)) Q st := by
  intro P K env A s Qc E hA hE hX R k
  have := h default P K env A s Qc E hA hE hX R k
  dsimp only at this
  rwa [he, backTo_plain] at this

def flV : Fl → V
  | .ret u => u
  | _ => .none
/-- the end of a def's body -/
def endQ (Q : V → (Addr → Option AO) → Prop) (fl : Fl) (st : St) : Prop := Q (flV fl) st.H
def outQ (Q : V → St → Prop) (st : St) (u : V) (H : Addr → Option AO) : Prop := Q u { st with H := H }
def fnQ (C : Cx) (f : Fm) (fv : Value) (Q : V → St → Prop) (us : List V) (st : St) : Prop := Fn C f.d fv us st.H (outQ Q st)
structure CallQ (C : Cx) (f : Fm) (es : List Expr) (fv : Value) (Q : V → St → Prop) (u : V) (st : St) : Prop where
  e : u = .raw fv
  q : aws C f es (fnQ C f fv Q) st
/-- a call of something that a name holds -/
theorem aw_call {x : Str} {np pos : Pos} {es : List Expr} {Q : V → St → Prop} {fv : Value} (hk : Keeps1 C fv)
    (h : aw C f (.Name x np) (CallQ C f es fv Q) st) (he : ∀ env, starEach es env = plainArgs es env := by intro _; rfl) :
    aw C f (.Call (.Name x np) es [] pos) Q st := by
  intro P K env A s Qc E hA hE hX R k
  refine wpAny_Call_ofName (h P K env A s _ E hA hE hX R ?_)
  rintro u v st₁ K₁ h₁ tk₁ g₁ R₁ r ⟨rfl, h2⟩
  (first | cases r.raw' | obtain ⟨_, rfl⟩ := r.int' | obtain ⟨_, rfl⟩ := r.str' | cases r.bool' | cases r)
  show wpAny _ A (callWith pos fv [] (backTo pos (starEach es env)) []) Qc E _
  rw [he env, backTo_plain]
  refine wp_callWith hk (aws_plain h2 he P K₁ env A _ _ E hA hE hX R₁ ?_)
  intro us vs st₂ K₂ h₂ tk₂ g₂ R₂ rs q
  refine ⟨fun b o e => Rl.ext R₂ hX b o e, ?_⟩
  exact q.use hA hX R₂ rs fun u v st' K' h' tk g R' r' q' => k u v st' K' h' tk ((g₁.trans g₂).trans g) R' r' q'

/-- looking a method up -/
def MethOk (C : Cx) (u : V) (name : Str) (H : Addr → Option AO) (fv : Value) (first : List V) : Prop :=
  ∀ (P K : KM) (A : Around) (s : Shared) (v : Value) (pl : Sem Bool) (Qc : Value × List Value → Shared → Prop) (E : Value → Shared → Prop), Okd A 0 → C.hb.StaysIn s.heap → RH C.w P K H s.heap → Rep C.w K u v →
    (∀ vs tk, Reps C.w K first vs → Qc (fv, vs) { s with toks := tk }) → wpAny (MM C.w) A (getMethod v name pl) Qc E s
def fnM (C : Cx) (f : Fm) (fv : Value) (first : List V) (Q : V → St → Prop) (us : List V) (st : St) : Prop := Fn C f.d fv (first ++ us) st.H (outQ Q st)
inductive MethQ (C : Cx) (f : Fm) (name : Str) (es : List Expr) (Q : V → St → Prop) (u : V) (st : St) : Prop
  | mk (fv : Value) (first : List V) (hk : Keeps1 C fv) (hm : MethOk C u name st.H fv first) (q : aws C f es (fnM C f fv first Q) st)
inductive MethC (o : Expr) (name : Str) (apos pos : Pos) (es : List Expr) (env : Env) : Prop
  | mk (pl : Sem Bool) (h : eval (.Call (.Attribute o name apos) es [] pos) env = (do let ov ← eval o env; standAt apos.atName; let (f, first) ← holding [ov] (getMethod ov name pl); callWith pos f first (backTo pos (starEach es env)) (backToKw pos (keywordEach [] env))))
theorem aw_meth {o : Expr} {name : Str} {apos pos : Pos} {es : List Expr} {Q : V → St → Prop}
    (h : aw C f o (MethQ C f name es Q) st)
    (hc : ∀ env, MethC o name apos pos es env := by intro _; exact ⟨_, rfl⟩)
    (he : ∀ env, starEach es env = plainArgs es env := by intro _; rfl) : aw C f (.Call (.Attribute o name apos) es [] pos) Q st := by
  intro P K env A s Qc E hA hE hX R k
  obtain ⟨pl, hc⟩ := hc env
  rw [hc]
  refine wpAny_bind (h P K env A s _ E hA hE hX R ?_)
  rintro u v st₁ K₁ h₁ tk₁ g₁ R₁ r ⟨fv, first, hk, hm, h2⟩
  refine wpAny_bind (wpAny_standAt (wpAny_bind (wpAny_holding ?_)))
  refine hm P K₁ A _ v pl _ E (hA.le (Nat.zero_le _)) (fun b o e => Rl.ext R₁ hX b o e) R₁.rh r ?_
  intro fs tk rf
  show wpAny _ A (callWith pos fv fs (backTo pos (starEach es env)) []) Qc E _
  rw [he env, backTo_plain]
  refine wp_callWith hk (aws_plain h2 he P K₁ env A _ _ E hA hE hX R₁ ?_)
  intro us vs st₂ K₂ h₂ tk₂ g₂ R₂ rs q
  refine ⟨fun b o e => Rl.ext R₂ hX b o e, ?_⟩
  exact q.use hA hX R₂ ((rf.mono g₂.le).append rs) fun u v st' K' h' tk g R' r' q' => k u v st' K' h' tk ((g₁.trans g₂).trans g) R' r' q'
end

/- the text's own defs -/
def mOf (ps : List Str) (us : List V) : Str → Option V := fun x => (ps.zip us).lookup x
theorem zip_lookup {ps : List Str} {us : List V} {vs : List Value} {w : World} {K : KM} (r : Reps w K us vs) {x : Str} {u : V} (e : (ps.zip us).lookup x = some u) : ∃ v, (ps.zip vs).lookup x = some v ∧ Rep w K u v := by
  induction ps generalizing us vs with
  | nil => cases e
  | cons p ps ih =>
    cases r with
    | nil => cases e
    | @cons u' v' us vs r rs =>
      simp only [List.zip_cons_cons, List.lookup_cons] at e ⊢
      cases q : x == p with
      | true => rw [q] at e; cases e; exact ⟨v', rfl, r⟩
      | false => rw [q] at e; exact ih rs e
theorem lookup_mem {α : Type} {l : List (Str × α)} {x : Str} {a : α} (e : l.lookup x = some a) : (x, a) ∈ l := by
  induction l with
  | nil => cases e
  | cons p r ih =>
    obtain ⟨y, b⟩ := p
    rw [List.lookup_cons] at e
    split at e
    · rename_i q; cases e; rw [eq_of_beq q]; exact .head _
    · exact .tail _ (ih e)
theorem lookup_of_mem {α : Type} {l : List (Str × α)} (nd : (l.map (·.1)).Nodup) {x : Str} {a : α} (m : (x, a) ∈ l) : l.lookup x = some a := by
  induction l with
  | nil => cases m
  | cons p r ih =>
    obtain ⟨y, b⟩ := p
    simp only [List.map_cons, List.nodup_cons] at nd
    rw [List.lookup_cons]
    rcases List.mem_cons.mp m with e | m
    · cases e; rw [beq_self_eq_true]
    · have : (x == y) = false := by
        cases q : x == y with
        | false => rfl
        | true => exact absurd (List.mem_map.mpr ⟨_, m, rfl⟩) (eq_of_beq q ▸ nd.1)
      rw [this]; exact ih nd.2 m
theorem lookup_rev {α : Type} {l : List (Str × α)} (nd : (l.map (·.1)).Nodup) (x : Str) : l.reverse.lookup x = l.lookup x := by
  have nd' : (l.reverse.map (·.1)).Nodup := by rw [List.map_reverse]; simpa [List.Nodup, List.pairwise_reverse, ne_comm] using nd
  cases q : l.lookup x with
  | some a => exact lookup_of_mem nd' (List.mem_reverse.mpr (lookup_mem q))
  | none =>
    cases q' : l.reverse.lookup x with
    | none => rfl
    | some a => rw [lookup_of_mem nd (List.mem_reverse.mp (lookup_mem q'))] at q; cases q
theorem zip_names {ps : List Str} {vs : List Value} (h : ps.length = vs.length) : (ps.zip vs).map (·.1) = ps := List.map_fst_zip (Nat.le_of_eq h)

structure DefAt (C : Cx) (fa : Addr) (ps : List Str) (body : List Stmt) (sc : Scope) : Prop where
  at' : ∃ oc od fd osl, (frK C.w.params).lookup fa = some ⟨oc, od, .func fd, osl⟩ ∧ codeIn (frK C.w.params) fd.code fd.qualname = true ∧ fd.body = .stmts body ∧ fd.closure = [] ∧ fd.scope = sc ∧ fd.globals = mainGlobals ∧ fd.builtins = builtinsNs ∧
    (∀ vs : List Value, vs.length = ps.length → bindArgs fd ⟨vs, []⟩ = pure (ps.zip vs))
  nd : ps.Nodup
  co : sc.isCoroutine = false
  gen : sc.isGenerator = false
  fn : sc.kind = .function

theorem fn_def {C : Cx} {fa : Addr} {ps : List Str} {body : List Stmt} {sc : Scope} {d : Nat} {us : List V} {H : Addr → Option AO} {Q : V → (Addr → Option AO) → Prop} (D : DefAt C fa ps body sc) (hn : us.length = ps.length)
    (hloc : ∀ x ∈ ps, sc.names.lookup x = some .local) (hcell : ∀ x ∈ sc.names, x.2 ≠ .cell)
    (h : ax C ⟨sc, true, d⟩ body (endQ Q) ⟨mOf ps us, H⟩) : Fn C (d + 1) (.ref fa) us H Q := by
  intro P K A s vs Qc E hA hX R r k
  obtain ⟨oc, od, fd, osl, hl, hcd, hbody, hclo, rfl, hgl, hbu, hb⟩ := D.at'
  have hs : C.hb.StaysIn s.heap := fun b o e => R.prot b o (hX b o e)
  have hvl : vs.length = ps.length := by rw [← r.length]; exact hn
  have hnm : (ps.zip vs).map (·.1) = ps := zip_names hvl.symm
  refine wpAny_call (codeAny_call_def (fd := fd) (body := body) (binds := ps.zip vs) (by have := hA.dep; (first | lia | omega)) (C.X.keeps hs _ _ hl) rfl (C.lim.keeps hs) (codeRec_of (C.X.keeps hs) hcd) hbody (BindsTo.of_eq (hb vs hvl)) hcell
    (fun x hx => hloc x.1 (by rw [← hnm]; exact List.mem_map_of_mem hx)) (fun h₀ hns hk => ?_) D.co D.gen D.fn)
  have eC : (callEnv fd s.heap.objs.size fa).cells = [] := hclo
  have hE : EnvOk ⟨fd.scope, true, d⟩ (callEnv fd s.heap.objs.size fa) := ⟨rfl, hgl, hbu, D.fn⟩
  have hG : GoodEnv (callEnv fd s.heap.objs.size fa) := ⟨D.gen, D.co, hbu, hgl⟩
  have fr := R.freshP (get_size s.heap)
  have R0 : Rl C.w P K (callEnv fd s.heap.objs.size fa) true ⟨mOf ps us, H⟩ h₀ := by
    refine ⟨⟨fun a o e => hk a o (R.prot a o e), fun a o e => hk a o (R.froz a o e), fun a o e => let ⟨⟨ob, e1, r1⟩, q⟩ := R.objs a o e; ⟨⟨ob, hk _ _ e1, r1⟩, q⟩⟩, fun a o e => ⟨?_, fun _ => by rw [eC]; simp⟩, ⟨_, hns, fun x u e _ => ?_⟩, ⟨fr.1, fr.2.1⟩, fun x u e kd => ?_,
      fun _ => ⟨by rw [eC]; simp, by rw [eC]; simp, by rw [eC]; simp, fun x hx => absurd rfl (hcell (x, .cell) (lookup_mem hx))⟩, fun e => by cases e⟩
    · rintro rfl; exact absurd ((show H s.heap.objs.size = some o from e).symm.trans fr.2.2) (by simp)
    · obtain ⟨v, e', r'⟩ := zip_lookup r e
      exact ⟨v, by rw [lookup_rev (by rw [hnm]; exact D.nd)]; exact e', r'⟩
    · obtain ⟨v, e', r'⟩ := zip_lookup r e
      exfalso
      have hx : x ∈ ps := by rw [← hnm]; exact List.mem_map.mpr ⟨_, lookup_mem e', rfl⟩
      have e1 := hloc x hx
      rw [show (callEnv fd s.heap.objs.size fa).kindOf x = fd.scope.names.lookup x from rfl, e1] at kd; cases kd
  refine h P K _ _ _ _ _ (hA.deeper hG) hE hX R0 ?_
  intro fl flv st' K' h' tk g R' rf q
  cases rf with
  | ret rv => exact k _ _ st'.H K' h' tk g R'.rh rv q
  | next => exact k _ _ st'.H K' h' tk g R'.rh .none q
  | brk => exact k _ _ st'.H K' h' tk g R'.rh .none q
  | cont => exact k _ _ st'.H K' h' tk g R'.rh .none q
end Mine
namespace Mine
theorem bindL_of {ko : Str → Option NameKind} : ∀ {l : List (Str × Value)} {m : Str → Option Value} {x : Str} {v : Value}, (l.map (·.1)).Nodup → ko x = some .local → l.lookup x = some v → bindL ko l m x = some v
  | [], _, _, _, _, _, e => by cases e
  | (n, v') :: r, m, x, v, nd, hk, e => by
    simp only [List.map_cons, List.nodup_cons] at nd
    unfold bindL
    rw [List.lookup_cons] at e
    split at e
    · rename_i q
      cases e
      have q := eq_of_beq q
      subst q
      rw [if_pos hk]
      have : ∀ {r : List (Str × Value)} {m : Str → Option Value}, x ∉ r.map (·.1) → bindL ko r m x = m x := by
        intro r
        induction r with
        | nil => intro m _; rfl
        | cons p r ih =>
          intro m hx
          obtain ⟨n, v⟩ := p
          simp only [List.map_cons, List.mem_cons, not_or] at hx
          unfold bindL
          rw [ih hx.2]
          split
          · exact if_neg hx.1
          · rfl
      rw [this nd.1, if_pos rfl]
    · exact bindL_of nd.2 hk e
theorem bindC_of {ko : Str → Option NameKind} : ∀ {l : List (Str × Value)} {m : Str → Option Value} {x : Str} {v : Value}, (l.map (·.1)).Nodup → ko x ≠ some .local → l.lookup x = some v → bindC ko l m x = some v
  | [], _, _, _, _, _, e => by cases e
  | (n, v') :: r, m, x, v, nd, hk, e => by
    simp only [List.map_cons, List.nodup_cons] at nd
    unfold bindC
    rw [List.lookup_cons] at e
    split at e
    · rename_i q
      cases e
      have q := eq_of_beq q
      subst q
      rw [if_neg hk]
      have : ∀ {r : List (Str × Value)} {m : Str → Option Value}, x ∉ r.map (·.1) → bindC ko r m x = m x := by
        intro r
        induction r with
        | nil => intro m _; rfl
        | cons p r ih =>
          intro m hx
          obtain ⟨n, v⟩ := p
          simp only [List.map_cons, List.mem_cons, not_or] at hx
          unfold bindC
          rw [ih hx.2]
          split
          · rfl
          · exact if_neg hx.1
      rw [this nd.1, if_pos rfl]
    · exact bindC_of nd.2 hk e
theorem cell_mem : ∀ {l : List (Str × Addr)} {c : Addr}, c ∈ l.map (·.2) → ∃ n, (n, c) ∈ l := fun m => by
  obtain ⟨⟨n, c'⟩, h, rfl⟩ := List.mem_map.mp m
  exact ⟨n, h⟩
theorem fn_defC {C : Cx} {fa : Addr} {ps : List Str} {body : List Stmt} {sc : Scope} {d : Nat} {us : List V} {H : Addr → Option AO} {Q : V → (Addr → Option AO) → Prop} (D : DefAt C fa ps body sc) (hn : us.length = ps.length)
    (hkind : ∀ n, ∀ x ∈ ps, sc.names.lookup x = some .local ∨ (sc.names.lookup x = some .cell ∧ ((cellsFrom n sc.names []).lookup x).isSome = true)) (hnd : ∀ n, ((cellsFrom n sc.names []).map (·.1)).Nodup)
    (h : ax C ⟨sc, true, d⟩ body (endQ Q) ⟨mOf ps us, H⟩) : Fn C (d + 1) (.ref fa) us H Q := by
  intro P K A s vs Qc E hA hX R r k
  obtain ⟨oc, od, fd, osl, hl, hcd, hbody, hclo, rfl, hgl, hbu, hb⟩ := D.at'
  have hs : C.hb.StaysIn s.heap := fun b o e => R.prot b o (hX b o e)
  have hvl : vs.length = ps.length := by rw [← r.length]; exact hn
  have hnm : (ps.zip vs).map (·.1) = ps := zip_names hvl.symm
  refine wpAny_call (codeAny_call_cells (fd := fd) (body := body) (binds := ps.zip vs) (by have := hA.dep; (first | lia | omega)) (C.X.keeps hs _ _ hl) rfl (C.lim.keeps hs) (codeRec_of (C.X.keeps hs) hcd) hbody (hb vs hvl) hclo
    (fun x hx => hkind _ x.1 (by rw [← hnm]; exact List.mem_map_of_mem hx)) (fun s₁ I => ?_) D.co D.gen D.fn)
  generalize hc : (callEnvC fd s.heap.objs.size fa) = env at I ⊢
  have hEs : env.scope = fd.scope := by rw [← hc]; rfl
  have hE : EnvOk ⟨fd.scope, true, d⟩ env := ⟨hEs, by rw [← hc]; exact hgl, by rw [← hc]; exact hbu, D.fn⟩
  have hG : GoodEnv env := ⟨by rw [hEs]; exact D.gen, by rw [hEs]; exact D.co, by rw [← hc]; exact hbu, by rw [← hc]; exact hgl⟩
  have eL : env.locals = s.heap.objs.size := by rw [← hc]; rfl
  have eC : env.cells = cellsFrom (s.heap.objs.size + 1) fd.scope.names [] := by rw [← hc]; rfl
  have fr := R.freshP (get_size s.heap)
  obtain ⟨⟨⟨h₀, tk₀, rfl⟩, hns, hk, -⟩, hcell, hap, hab⟩ := I
  have dead : ∀ c ∈ env.cells.map (·.2), s.heap.get? c = none := fun c hc => by
    obtain ⟨n, m⟩ := cell_mem hc
    have := hab n c m
    rw [eL] at this
    cases q : s.heap.get? c with
    | none => rfl
    | some o => exact absurd (Heap.lt_size q) (Nat.not_lt.mpr (Nat.le_of_lt this))
  have R0 : Rl C.w P K env true ⟨mOf ps us, H⟩ h₀ := by
    refine ⟨⟨fun a o e => hk a o (R.prot a o e), fun a o e => hk a o (R.froz a o e), fun a o e => let ⟨⟨ob, e1, r1⟩, q⟩ := R.objs a o e; ⟨⟨ob, hk _ _ e1, r1⟩, q⟩⟩, fun a o e => ⟨?_, fun _ hm => ?_⟩, ⟨_, hns, fun x u e kd => ?_⟩, ⟨by rw [eL]; exact fr.1, by rw [eL]; exact fr.2.1⟩, fun x u e kd => ?_,
      fun _ => ⟨fun hm => ?_, fun c hm => ?_, ?_, fun x hx => by rw [eC]; rw [hE.kindOf] at hx; exact cellsFrom_some _ _ _ (.inl hx)⟩, fun e => by cases e⟩
    · rintro rfl; exact absurd ((show H s.heap.objs.size = some o from by rw [← eL]; exact e).symm.trans fr.2.2) (by simp)
    · have := (R.freshP (dead a hm)).2.2; rw [show H a = some o from e] at this; cases this
    · obtain ⟨v, e', r'⟩ := zip_lookup r e
      exact ⟨v, bindL_of (by rw [hnm]; exact D.nd) kd e', r'⟩
    · obtain ⟨v, e', r'⟩ := zip_lookup r e
      have hx : x ∈ ps := by rw [← hnm]; exact List.mem_map.mpr ⟨_, lookup_mem e', rfl⟩
      have kd' : fd.scope.names.lookup x = some .cell := by rw [← hE.kindOf]; exact kd
      rcases hkind (s.heap.objs.size + 1) x hx with e1 | ⟨_, e1⟩
      · rw [kd'] at e1; cases e1
      · obtain ⟨c, e1⟩ := Option.isSome_iff_exists.mp e1
        rw [← eC] at e1
        refine ⟨c, v, e1, ?_, r'⟩
        have := hcell x c e1
        rwa [bindC_of (by rw [hnm]; exact D.nd) (by rw [kd]; simp) e'] at this
    · obtain ⟨n, m⟩ := cell_mem hm
      have := hab n _ m
      exact Nat.lt_irrefl _ this
    · have q := R.freshP (dead c hm)
      obtain ⟨n, m⟩ := cell_mem hm
      exact ⟨q.1, q.2.1, _, hcell n c (lookup_of_mem (by rw [eC]; exact hnd _) m)⟩
    · simpa [List.Nodup, List.pairwise_map] using hap
  refine h P K env _ ⟨h₀, s.gens, s.drawn, tk₀, s.os⟩ _ _ (hA.deeper hG) hE hX R0 ?_
  intro fl flv st' K' h' tk g R' rf q
  cases rf with
  | ret rv => exact k _ _ st'.H K' h' tk g R'.rh rv q
  | next => exact k _ _ st'.H K' h' tk g R'.rh .none q
  | brk => exact k _ _ st'.H K' h' tk g R'.rh .none q
  | cont => exact k _ _ st'.H K' h' tk g R'.rh .none q
end Mine
end

section
open PySem PySem.W PyProof.Rows PySem.Calls
set_option Elab.async false
set_option maxRecDepth 100000
set_option linter.unusedVariables false
namespace Mine
noncomputable abbrev HF (P : Params) : Frag := frK P
section
variable {C : Cx} {f : Fm} {st : St} {H : Addr → Option AO}

/- attributes of an object -/
inductive AttrQ (C : Cx) (name : Str) (Q : V → St → Prop) (u : V) (st : St) : Prop
  | mk (c : Addr) (fs : List (Str × V)) (r : V) (e : u = .inst c fs) (hl : fs.lookup name = some r) (h1 : plainGet (HF C.w.params) c name = true) (h2 : hasDictIn (HF C.w.params) c = true)
      (h3 : ∃ attr, findIn (HF C.w.params) (.ref c) name = some attr ∧ noGet (HF C.w.params) attr = true) (q : Q r st)
structure AttrC (x : Str) (np p : Pos) (name : Str) : Prop where
  he : ∀ env, eval (.Attribute (.Name x np) name p) env = (eval (.Name x np) env >>= fun o => standAt p.atName >>= fun _ => holding [o] (getAttr o name true) >>= fun r => (pure () : Sem Unit) >>= fun _ => pure r)
theorem aw_attr {x : Str} {np p : Pos} {name : Str} {Q : V → St → Prop} (h : aw C f (.Name x np) (AttrQ C name Q) st)
    (he : AttrC x np p name := by exact ⟨fun _ => rfl⟩) :
    aw C f (.Attribute (.Name x np) name p) Q st := by
  intro P K env A s Qc E hA hE hX R k
  rw [he.he]
  refine wpAny_bind (h P K env A s _ E hA hE hX R ?_)
  rintro u v st₁ K₁ h₁ tk₁ g₁ R₁ r ⟨c, fs, r0, rfl, hl, h1, h2, ⟨attr, h3, h4⟩, q⟩
  refine wpAny_bind (wpAny_standAt (wpAny_bind (wpAny_holding ?_)))
  cases r with | inst hx hd hlv hr hn =>
  rename_i xa dx des n vf
  obtain ⟨e1, e2⟩ := hlv name r0 hl
  have X := C.X.keeps (Rl.ext R₁ hX)
  have I : InstAt h₁ xa (instObj c dx) c (some (dictOf des n)) := ⟨R₁.rh.froz _ _ hx, rfl, rfl, R₁.rh.froz _ _ hd⟩
  refine get_value X I (plainGet_of h1).1 (findObj_own h2 h3 h4 (by rw [lookIn_dict]; exact e1)) e2 (wpAny_bind (wpAny_pure (wpAny_pure ?_)))
  exact k r0 _ st₁ K₁ h₁ _ g₁ R₁ (hr name r0 hl) q
theorem meth_inst {c : Addr} {fs : List (Str × V)} {name : Str} {fa : Addr} (hg : plainGet (HF C.w.params) c name = true) (hf : findIn (HF C.w.params) (.ref c) name = some (some (.ref fa))) (ht : typeIn (HF C.w.params) (.ref fa) = some (.type "function"))
    (hl : fs.lookup name = none) : MethOk C (.inst c fs) name H (.ref fa) [.inst c fs] := by
  intro P K A s v pl Qc E hA hs R r k
  cases r with | inst hx hd hlv hr hn =>
  rename_i xa dx des n vf
  have I : InstAt s.heap xa (instObj c dx) c (some (dictOf des n)) := ⟨R.froz _ _ hx, rfl, rfl, R.froz _ _ hd⟩
  refine method_fn (C.X.keeps hs) I (plainGet_of hg).1 (plainGet_of hg).2 hf ht (by show (lookIn name (dictOf des n)).map _ = _; rw [lookIn_dict, hn name hl]; rfl) ?_
  exact k [_] s.toks (.cons (.inst hx hd hlv hr hn) .nil)

/- subscripts -/
def SubOk (C : Cx) (o i : V) (H : Addr → Option AO) (r : V) : Prop :=
  ∀ (P K : KM) (A : Around) (s : Shared) (vo vi : Value) (Qc : Value → Shared → Prop) (E : Value → Shared → Prop), Okd A 1 → C.hb.StaysIn s.heap → RH C.w P K H s.heap → Rep C.w K o vo → Rep C.w K i vi → (∀ v tk, Rep C.w K r v → Qc v { s with toks := tk }) →
    (∃ T id, s.TypeIs vo T ∧ typeLookup (.type T) "__getitem__" = pure (some (.builtin id))) ∧ wpAny (MM C.w) A (getItem vo vi) Qc E s
inductive SubQ (C : Cx) (Q : V → St → Prop) (o ix : V) (st : St) : Prop
  | mk (r : V) (h : SubOk C o ix st.H r) (q : Q r st)
def subR (C : Cx) (f : Fm) (i : Expr) (Q : V → St → Prop) (o : V) (st : St) : Prop := aw C f i (SubQ C Q o) st
theorem aw_sub {v i : Expr} {p : Pos} {Q : V → St → Prop} (h : aw C f v (subR C f i Q) st) (hd : 1 ≤ f.d)
    (hs : ∀ o ix, subscripted i false o ix = operate [o, ix] (getItem o ix) := by intro _ _; rfl) : aw C f (.Subscript v i p) Q st := by
  intro P K env A s Qc E hA hE hX R k
  refine Subscript_ (h P K env A s _ E hA hE hX R ?_)
  intro o vo st₁ K₁ h₁ tk₁ g₁ R₁ ro h2
  refine h2 P K₁ env A _ _ E hA hE hX R₁ ?_
  rintro ix vi st₂ K₂ h₂ tk₂ g₂ R₂ ri ⟨r, hr, q⟩
  obtain ⟨⟨T, id, hT, hl⟩, hg⟩ := hr P K₂ A { s with heap := h₂, toks := tk₂ } vo vi Qc E (hA.le hd) (fun b o e => Rl.ext R₂ hX b o e) R₂.rh (ro.mono g₂.le) ri fun v tk rv => k r v st₂ K₂ h₂ tk (g₁.trans g₂) R₂ rv q
  exact tail_any hT hl hg (hs _ _)
theorem sub_lst {l : List V} {i : Int} {r : V} (h0 : 0 ≤ i) (h1 : i < 2 ^ 63) (e : l[i.toNat]? = some r) : SubOk C (.lst l) (.int i) H r := by
  intro P K A s vo vi Qc E hA hs R ro ri k
  (first | cases ri.raw' | obtain ⟨_, rfl⟩ := ri.int' | obtain ⟨_, rfl⟩ := ri.str' | cases ri.bool' | cases ri)
  obtain ⟨a, o, ws, n, rfl, hk, hc, hd, rs⟩ := ro.lst'
  have hl : s.heap.IsList a ws.toArray := ⟨o, R.froz _ _ hk, hc, n, hd⟩
  obtain ⟨v, ev, rv⟩ := rs.get e
  exact ⟨⟨"list", _, hl.typeIs, slot_list_getitem.lookup⟩, wpAny_getItem_list hl h0 h1 (by simpa using ev) (k v s.toks rv)⟩
theorem sub_lstN {l : List V} {i : Int} {r : V} (h0 : i < 0) (h1 : -(l.length : Int) ≤ i) (hb : -(2 ^ 63) ≤ i) (e : l[(i + l.length).toNat]? = some r) : SubOk C (.lst l) (.int i) H r := by
  intro P K A s vo vi Qc E hA hs R ro ri k
  (first | cases ri.raw' | obtain ⟨_, rfl⟩ := ri.int' | obtain ⟨_, rfl⟩ := ri.str' | cases ri.bool' | cases ri)
  obtain ⟨a, o, ws, n, rfl, hk, hc, hd, rs⟩ := ro.lst'
  have hl : s.heap.IsList a ws.toArray := ⟨o, R.froz _ _ hk, hc, n, hd⟩
  have hsz : (ws.toArray.size : Int) = l.length := by rw [List.size_toArray, rs.length]
  obtain ⟨v, ev, rv⟩ := rs.get e
  exact ⟨⟨"list", _, hl.typeIs, slot_list_getitem.lookup⟩, wpAny_getItem_list_neg hl h0 (by rw [hsz]; exact h1) hb (by rw [hsz]; simpa using ev) (k v s.toks rv)⟩
theorem sub_H {a : Addr} {l : List V} {i : Int} {r : V} (hH : H a = some (.list l)) (h0 : 0 ≤ i) (h1 : i < 2 ^ 63) (e : l[i.toNat]? = some r) : SubOk C (.raw (.ref a)) (.int i) H r := by
  intro P K A s vo vi Qc E hA hs R ro ri k
  (first | cases ri.raw' | obtain ⟨_, rfl⟩ := ri.int' | obtain ⟨_, rfl⟩ := ri.str' | cases ri.bool' | cases ri)
  (first | cases ro.raw' | obtain ⟨_, rfl⟩ := ro.int' | obtain ⟨_, rfl⟩ := ro.str' | cases ro.bool' | cases ro)
  obtain ⟨⟨ob, ho, ws, n, rfl, rs⟩, _⟩ := R.objs _ _ hH
  have hl : s.heap.IsList a ws := ⟨_, ho, rfl, n, rfl⟩
  obtain ⟨v, ev, rv⟩ := rs.get e
  exact ⟨⟨"list", _, hl.typeIs, slot_list_getitem.lookup⟩, wpAny_getItem_list hl h0 h1 (by simpa using ev) (k v s.toks rv)⟩
theorem sub_HN {a : Addr} {l : List V} {i : Int} {r : V} (hH : H a = some (.list l)) (h0 : i < 0) (h1 : -(l.length : Int) ≤ i) (hb : -(2 ^ 63) ≤ i) (e : l[(i + l.length).toNat]? = some r) : SubOk C (.raw (.ref a)) (.int i) H r := by
  intro P K A s vo vi Qc E hA hs R ro ri k
  (first | cases ri.raw' | obtain ⟨_, rfl⟩ := ri.int' | obtain ⟨_, rfl⟩ := ri.str' | cases ri.bool' | cases ri)
  (first | cases ro.raw' | obtain ⟨_, rfl⟩ := ro.int' | obtain ⟨_, rfl⟩ := ro.str' | cases ro.bool' | cases ro)
  obtain ⟨⟨ob, ho, ws, n, rfl, rs⟩, _⟩ := R.objs _ _ hH
  have hl : s.heap.IsList a ws := ⟨_, ho, rfl, n, rfl⟩
  have hsz : (ws.size : Int) = l.length := by rw [← Array.length_toList, ← rs.length]
  obtain ⟨v, ev, rv⟩ := rs.get e
  exact ⟨⟨"list", _, hl.typeIs, slot_list_getitem.lookup⟩, wpAny_getItem_list_neg hl h0 (by rw [hsz]; exact h1) hb (by rw [hsz]; simpa using ev) (k v s.toks rv)⟩
theorem sub_tup {l : List V} {i : Int} {j : Nat} {r : V} (hlo : -(2 ^ 63) ≤ i) (hhi : i < 2 ^ 63) (hj : seqIndex? i l.length = some j) (e : l[j]? = some r) : SubOk C (.tup l) (.int i) H r := by
  intro P K A s vo vi Qc E hA hs R ro ri k
  (first | cases ri.raw' | obtain ⟨_, rfl⟩ := ri.int' | obtain ⟨_, rfl⟩ := ri.str' | cases ri.bool' | cases ri)
  obtain ⟨a, o, ws, n, rfl, hk, hc, hd, rs⟩ := ro.tup'
  have hl : IsTup s.heap a ws.toArray := ⟨o, R.froz _ _ hk, hc, n, hd⟩
  obtain ⟨v, ev, rv⟩ := rs.get e
  exact ⟨⟨"tuple", _, hl.typeIs, slot_tuple_getitem.lookup⟩, getItem_tuple hl hlo hhi (by rw [List.size_toArray, ← rs.length]; exact hj) (by simpa using ev) (k v s.toks rv)⟩
theorem seqIndex_nat {i : Int} {n : Nat} (h0 : 0 ≤ i) (h1 : i < n) : seqIndex? i n = some i.toNat := by
  obtain ⟨j, rfl⟩ := Int.eq_ofNat_of_zero_le h0
  unfold seqIndex?
  simp
  (first | lia | omega)
theorem sub_tup0 {l : List V} {i : Int} {r : V} (h0 : 0 ≤ i) (h1 : i < 2 ^ 63) (e : l[i.toNat]? = some r) : SubOk C (.tup l) (.int i) H r :=
  sub_tup (by (first | lia | omega)) h1 (seqIndex_nat h0 (by have := (List.getElem?_eq_some_iff.mp e).1; (first | lia | omega))) e

/- storing into a list -/
section
variable {prog : Program} {w : World} {A : Around} {E : Value → Shared → Prop} {s : Shared}
theorem wp_setItem_list {l : Addr} {items : Array Value} {n : Nat} {k : Int} {j : Nat} {t : Tok} {v : Value} {Q : Unit → Shared → Prop} (ho : s.heap.get? l = some { cls := .type "list", data := .seq items n })
    (hk : (0 ≤ k ∧ k < 2 ^ 63 ∧ j = k.toNat ∧ j < items.size) ∨ (k < 0 ∧ -(items.size : Int) ≤ k ∧ -(2 ^ 63) ≤ k ∧ j = (k + items.size).toNat))
    (hQ : Q () { s with heap := s.heap.update l (Obj.mapSeq (·.setIfInBounds j v)) }) :
    wpAny (model prog w) A (setItem (.ref l) (.int k t) v) Q E s := by
  have hl : s.heap.IsList l items := ⟨_, ho, rfl, n, rfl⟩
  unfold setItem
  try with_reducible refine wpAny_holding ?_
  first | refine wpAny_bind (wpAny_pure ?_) | skip
  refine wpAny_bind (wpAny_sequenceKey hl.typeIs (by decide) ?_)
  refine wpAny_bind (wpAny_callSpecial?_slot (name := Str.ofString "__setitem__") hl.typeIs slot_list_setitem
    (wpAny_call_entry slot_list_setitem hl.typeIs entry_list_setitem ?_ (args_list_setitem _ _ _)))
  show wpAny _ _ (Builtin.List.listSubscript? (.int k t) >>= _) _ _ s
  rcases hk with ⟨h0, hfit, rfl, hj⟩ | ⟨h0, h1, hfit, hje⟩
  · refine wpAny_bind (wpAny_listSubscript_int (fitsIndex_of h0 hfit) ?_)
    clear hfit
    obtain ⟨j, rfl⟩ := Int.eq_ofNat_of_zero_le h0
    simp only [Int.toNat_natCast] at hj hQ
    have hx' : items[j]? = some items[j] := Array.getElem?_eq_getElem hj
    show wpAny _ _ ((seqItemAt l j >>= fun r => pure (r.map (j, ·))) >>= _) _ _ s
    refine wpAny_bind (wpAny_bind (wpAny_seqItemAt ho rfl (wpAny_pure ?_)))
    rw [hx']
    show wpAny _ _ (setSeqItemAt l j v >>= _) _ _ s
    refine wpAny_bind (wpAny_setSeqItemAt ho rfl ?_)
    first
      | exact wpAny_bind (wpAny_pure (wpAny_pure ⟨.none, rfl, wpAny_pure hQ⟩))
      | exact wpAny_pure ⟨.none, rfl, wpAny_pure hQ⟩
  · refine wpAny_bind (wpAny_listSubscript_int (fitsIndex_neg h0 hfit) ?_)
    clear hfit
    have hidx := seqIndex_neg h0 h1
    rw [← hje] at hidx
    have hj : j < items.size := by (first | lia | omega)
    clear hje
    have hx' : items[j]? = some items[j] := Array.getElem?_eq_getElem hj
    obtain ⟨i, rfl⟩ : ∃ i : Nat, k = Int.negSucc i := by
      cases k with
      | ofNat n => exact absurd h0 (Int.not_lt.mpr (Int.natCast_nonneg n))
      | negSucc n => exact ⟨n, rfl⟩
    show wpAny _ _ ((Builtin.List.listItems (.ref l) >>= fun xs => pure ((seqIndex? (Int.negSucc i) xs.size).bind fun i => xs[i]?.map (i, ·))) >>= _) _ _ s
    refine wpAny_bind (wpAny_bind ?_)
    show wpAny _ _ (seqItems? (.ref l) >>= _) _ _ s
    refine wpAny_bind (wpAny_seqItems ho rfl (wpAny_pure (wpAny_pure ?_)))
    rw [hidx]
    simp only [Option.bind_some, hx', Option.map_some]
    show wpAny _ _ (setSeqItemAt l j v >>= _) _ _ s
    refine wpAny_bind (wpAny_setSeqItemAt ho rfl ?_)
    first
      | exact wpAny_bind (wpAny_pure (wpAny_pure ⟨.none, rfl, wpAny_pure hQ⟩))
      | exact wpAny_pure ⟨.none, rfl, wpAny_pure hQ⟩
theorem wp_append {l : Addr} {items : Array Value} {n : Nat} {x : Value} {Q : Value → Shared → Prop} (ho : s.heap.get? l = some { cls := .type "list", data := .seq items n })
    (hQ : Q .none { s with heap := s.heap.update l (Obj.mapSeq (·.push x)) }) (hsz : items.size ≤ sizeLine) : wpAny (model prog w) A (call (.builtin "list.append") [.ref l, x]) Q E s := by
  have hl : s.heap.IsList l items := ⟨_, ho, rfl, n, rfl⟩
  refine wpAny_call_entry slot_list_append hl.typeIs entry_list_append ?_ (args_list_append _ _)
  show wpAny _ _ (updateSeq l (·.push x) >>= fun _ => ret .none) _ _ s
  refine wpAny_bind ?_
  exact wpAny_updateSeq ho rfl (wpAny_pure ⟨.none, rfl, hQ⟩)
theorem mapSeq_exact {items : Array Value} {n : Nat} {g : Array Value → Array Value} : ∃ n', Obj.mapSeq g { cls := .type "list", data := .seq items n } = { cls := .type "list", data := .seq (g items) n' } := ⟨_, rfl⟩
theorem upd_exact {h : Heap} {l : Addr} {items : Array Value} {n : Nat} {g : Array Value → Array Value} (ho : h.get? l = some { cls := .type "list", data := .seq items n }) :
    ∃ n', (h.update l (Obj.mapSeq g)).get? l = some { cls := .type "list", data := .seq (g items) n' } := by
  obtain ⟨n', e⟩ := mapSeq_exact (items := items) (n := n) (g := g)
  exact ⟨n', by rw [Heap.get?_update_self _ ho (by rw [e]; rfl), e]⟩
end

/-- o[i] = u turns the mutable a from ao into ao' -/
def SetOk (C : Cx) (a : Addr) (i u : V) (ao ao' : AO) : Prop :=
  ∀ (P K : KM) (A : Around) (s : Shared) (vi v : Value) (ob : Obj) (Qc : Unit → Shared → Prop) (E : Value → Shared → Prop), Okd A 1 → (∀ b o, K b = some o → s.heap.get? b = some o) → s.heap.get? a = some ob → K a = none → ORep C.w K ao ob → Rep C.w K i vi → Rep C.w K u v →
    (∀ h' ob' tk, Heap.SameBut a s.heap h' → h'.get? a = some ob' → ORep C.w K ao' ob' → Qc () { s with heap := h', toks := tk }) → wpAny (MM C.w) A (setItem (.ref a) vi v) Qc E s
theorem arr_set {items : Array Value} {j : Nat} {v : Value} : (items.setIfInBounds j v).toList = items.toList.set j v := by simp
theorem set_list {a : Addr} {l : List V} {i : Int} {u : V} (h0 : 0 ≤ i) (h1 : i < 2 ^ 63) (hn : i < l.length) : SetOk C a (.int i) u (.list l) (.list (l.set i.toNat u)) := by
  intro P K A s vi v ob Qc E hA hk ho hK ⟨ws, n, e, rs⟩ ri rv k
  (first | cases ri.raw' | obtain ⟨_, rfl⟩ := ri.int' | obtain ⟨_, rfl⟩ := ri.str' | cases ri.bool' | cases ri); subst e
  obtain ⟨n', e'⟩ := upd_exact (g := (·.setIfInBounds i.toNat v)) ho
  refine wp_setItem_list ho (.inl ⟨h0, h1, rfl, by rw [← Array.length_toList, ← rs.length]; (first | lia | omega)⟩) ?_
  exact k _ _ s.toks (Heap.SameBut.update ..) e' ⟨_, n', rfl, by rw [arr_set]; exact rs.set rv _⟩
theorem set_listN {a : Addr} {l : List V} {i : Int} {u : V} (h0 : i < 0) (h1 : -(l.length : Int) ≤ i) (hb : -(2 ^ 63) ≤ i) : SetOk C a (.int i) u (.list l) (.list (l.set (i + l.length).toNat u)) := by
  intro P K A s vi v ob Qc E hA hk ho hK ⟨ws, n, e, rs⟩ ri rv k
  (first | cases ri.raw' | obtain ⟨_, rfl⟩ := ri.int' | obtain ⟨_, rfl⟩ := ri.str' | cases ri.bool' | cases ri); subst e
  have hsz : (ws.size : Int) = l.length := by rw [← Array.length_toList, ← rs.length]
  obtain ⟨n', e'⟩ := upd_exact (g := (·.setIfInBounds (i + l.length).toNat v)) ho
  refine wp_setItem_list ho (.inr ⟨h0, by rw [hsz]; exact h1, hb, by rw [hsz]⟩) ?_
  exact k _ _ s.toks (Heap.SameBut.update ..) e' ⟨_, n', rfl, by rw [arr_set]; exact rs.set rv _⟩
theorem arm_assign_Sub (o i : Expr) (pos : Pos) (env : Env) (v : Value) : assign (.Subscript o i pos) env v = (do
    let ov ← holding [v] (eval o env)
    let iv ← holding [v, ov] (eval i env)
    standAt pos
    holding [v, ov, iv] (setItem ov iv v)
    release (match i with | .Slice _ _ none _ => [iv, v, ov] | _ => [v, ov, iv]) []) := rfl
inductive SetQ (C : Cx) (u : V) (Q : St → Prop) (uo ix : V) (st : St) : Prop
  | mk (a : Addr) (ao ao' : AO) (e : uo = .raw (.ref a)) (hH : st.H a = some ao) (hs : SetOk C a ix u ao ao') (q : Q { st with H := hput st.H a ao' })
def setR (C : Cx) (f : Fm) (i : Expr) (u : V) (Q : St → Prop) (uo : V) (st : St) : Prop := aw C f i (SetQ C u Q uo) st
theorem aas_sub {o i : Expr} {p : Pos} {u : V} {Q : St → Prop} (h : aw C f o (setR C f i u Q) st) (hd : 1 ≤ f.d) : aas C f (.Subscript o i p) u Q st := by
  intro P K env A s v Qc E hA hE hX R r k
  rw [arm_assign_Sub]
  refine wpAny_bind (wpAny_holding (h P K env A s _ E hA hE hX R ?_))
  intro uo vo st₁ K₁ h₁ tk₁ g₁ R₁ ro h2
  refine wpAny_bind (wpAny_holding (h2 P K₁ env A _ _ E hA hE hX R₁ ?_))
  rintro ix vi st₂ K₂ h₂ tk₂ g₂ R₂ ri ⟨a, ao, ao', rfl, hH, hset, q⟩
  (first | cases ro.raw' | obtain ⟨_, rfl⟩ := ro.int' | obtain ⟨_, rfl⟩ := ro.str' | cases ro.bool' | cases ro)
  obtain ⟨⟨ob, ho, ro⟩, hP, hK⟩ := R₂.rh.objs _ _ hH
  refine wpAny_bind (wpAny_standAt (wpAny_bind (wpAny_holding ?_)))
  refine hset P K₂ A _ vi v ob _ E (hA.le hd) R₂.rh.froz ho hK ro ri (r.mono (g₁.trans g₂).le) ?_
  intro h' ob' tk hs e1 ro'
  exact wpAny_release (k _ K₂ h' tk (g₁.trans g₂) (R₂.setH hH hs e1 ro') q)

/- freezing what will not change any more, in a statement's value -/
inductive FrzQ (Q : V → St → Prop) (u : V) (st : St) : Prop
  | mk (a : Addr) (l : List V) (e : u = .raw (.ref a)) (hH : st.H a = some (.list l)) (q : Q (.lst l) { st with H := hdel st.H a })
theorem aw_freeze {e : Expr} {Q : V → St → Prop} (h : aw C f e (FrzQ Q) st) : aw C f e Q st := by
  intro P K env A s Qc E hA hE hX R k
  refine h P K env A s _ E hA hE hX R ?_
  rintro u v st₁ K₁ h₁ tk₁ g₁ R₁ r ⟨a, l, rfl, hH, q⟩
  (first | cases r.raw' | obtain ⟨_, rfl⟩ := r.int' | obtain ⟨_, rfl⟩ := r.str' | cases r.bool' | cases r)
  obtain ⟨⟨ob, ho, ws, n, rfl, rs⟩, _⟩ := R₁.rh.objs _ _ hH
  obtain ⟨R₂, g₂⟩ := R₁.freeze hH ho
  exact k _ _ _ _ h₁ tk₁ (g₁.trans g₂) R₂ (.lst (ws := ws.toList) (n := n) KM.put_self rfl (by simp) (rs.mono g₂.le)) q

/- methods of a mutable list -/
theorem meth_list {a : Addr} {l : List V} {name : Str} {id : String} (hH : H a = some (.list l)) (slot : Slot "list" name id) (hty : typeOf (.builtin id) = pure (.type "method_descriptor")) :
    MethOk C (.raw (.ref a)) name H (.builtin id) [.raw (.ref a)] := by
  intro P K A s v pl Qc E hA hs R r k
  (first | cases r.raw' | obtain ⟨_, rfl⟩ := r.int' | obtain ⟨_, rfl⟩ := r.str' | cases r.bool' | cases r)
  obtain ⟨⟨ob, ho, ws, n, rfl, rs⟩, _⟩ := R.objs _ _ hH
  have hl : s.heap.IsList a ws := ⟨_, ho, rfl, n, rfl⟩
  exact getMethod_builtin hl.typeIs PySem.F.plainAttrs_list slot hty (fun b e => by cases e; exact ⟨_, ho, rfl⟩) (k [_] s.toks (.cons (.raw _) .nil))
theorem RH.setH {w : World} {P K : KM} {h h' : Heap} (R : RH w P K H h) {d : Addr} {o o' : AO} {ob' : Obj} (e : H d = some o) (hs : Heap.SameBut d h h') (hd : h'.get? d = some ob') (r : ORep w K o' ob') : RH w P K (hput H d o') h' := by
  obtain ⟨hP, hK⟩ := (R.objs d o e).2
  have kp : ∀ a x, a ≠ d → h.get? a = some x → h'.get? a = some x := fun a x n q => (hs.2 a n).trans q
  refine ⟨fun a x q => kp a x (by rintro rfl; rw [hP] at q; cases q) (R.prot a x q), fun a x q => kp a x (by rintro rfl; rw [hK] at q; cases q) (R.froz a x q), fun b x q => ?_⟩
  by_cases n : b = d
  · subst n; simp only [hput_self] at q; cases q; exact ⟨⟨ob', hd, r⟩, hP, hK⟩
  · simp only [hput_ne n] at q
    obtain ⟨⟨ob, e1, r1⟩, e2⟩ := R.objs b x q
    exact ⟨⟨ob, kp _ _ n e1, r1⟩, e2⟩
theorem Reps.one {w : World} {K : KM} {u : V} {vs : List Value} (r : Reps w K [u] vs) : ∃ v, vs = [v] ∧ Rep w K u v := by
  cases r with | cons h t => cases t; exact ⟨_, rfl, h⟩
theorem Reps.two {w : World} {K : KM} {u u' : V} {vs : List Value} (r : Reps w K [u, u'] vs) : ∃ v v', vs = [v, v'] ∧ Rep w K u v ∧ Rep w K u' v' := by
  cases r with | cons h t => obtain ⟨v', rfl, h'⟩ := t.one; exact ⟨_, _, rfl, h, h'⟩
theorem Reps.three {w : World} {K : KM} {u u' u'' : V} {vs : List Value} (r : Reps w K [u, u', u''] vs) : ∃ v v' v'', vs = [v, v', v''] ∧ Rep w K u v ∧ Rep w K u' v' ∧ Rep w K u'' v'' := by
  cases r with | cons h t => obtain ⟨v', v'', rfl, h', h''⟩ := t.two; exact ⟨_, _, _, rfl, h, h', h''⟩
theorem fn_append {d : Nat} {a : Addr} {l : List V} {u : V} {Q : V → (Addr → Option AO) → Prop} (hH : H a = some (.list l)) (hn : l.length ≤ 2 ^ 24) (q : Q .none (hput H a (.list (l ++ [u])))) : Fn C d (.builtin "list.append") [.raw (.ref a), u] H Q := by
  intro P K A s vs Qc E hA hX R r k
  obtain ⟨v₀, v, rfl, r1, r2⟩ := r.two
  (first | cases r1.raw' | obtain ⟨_, rfl⟩ := r1.int' | obtain ⟨_, rfl⟩ := r1.str' | cases r1.bool' | cases r1)
  obtain ⟨⟨ob, ho, ws, n, rfl, rs⟩, _⟩ := R.objs _ _ hH
  obtain ⟨n', e'⟩ := upd_exact (g := (·.push v)) ho
  refine wp_append ho ?_ (by rw [← Array.length_toList, ← rs.length]; exact hn)
  exact k _ _ _ K _ s.toks (KGe.refl P K) (R.setH (o' := .list (l ++ [u])) hH (Heap.SameBut.update ..) e' ⟨_, n', rfl, by simpa using rs.append (.cons r2 .nil)⟩) .none q
end
end Mine
end

section
open PySem PySem.W PyProof.Rows PySem.Calls
set_option Elab.async false
set_option maxRecDepth 100000
set_option linter.unusedVariables false
namespace Mine
theorem RH.grow {w : World} {P K : KM} {H : Addr → Option AO} {h h' : Heap} (R : RH w P K H h) (hk : ∀ a o, h.get? a = some o → h'.get? a = some o) : RH w P K H h' :=
  ⟨fun a o e => hk a o (R.prot a o e), fun a o e => hk a o (R.froz a o e), fun a o e => let ⟨⟨ob, e1, r1⟩, q⟩ := R.objs a o e; ⟨⟨ob, hk _ _ e1, r1⟩, q⟩⟩
/-- a new frozen object at a dead place -/
theorem RH.newK {w : World} {P K : KM} {H : Addr → Option AO} {h h' : Heap} (R : RH w P K H h) (hk : ∀ a o, h.get? a = some o → h'.get? a = some o) {a : Addr} {o : Obj} (d : h.get? a = none) (e : h'.get? a = some o) :
    RH w P (K.put a o) H h' ∧ KGe P K (K.put a o) := by
  obtain ⟨h1, h2, h3⟩ := R.freshP d
  have g := KGe.put (o := o) h2 h1
  have R' := R.grow hk
  refine ⟨⟨R'.prot, fun b x q => ?_, fun b x q => ?_⟩, g⟩
  · by_cases n : b = a
    · subst n; rw [KM.put_self] at q; cases q; exact e
    · rw [KM.put_ne n] at q; exact R'.froz b x q
  · obtain ⟨⟨ob, e1, r⟩, e2, e3⟩ := R'.objs b x q
    exact ⟨⟨ob, e1, r.mono g.le⟩, e2, by rw [KM.put_ne (by rintro rfl; rw [h3] at q; cases q)]; exact e3⟩

section
variable {C : Cx} {f : Fm} {st : St} {H : Addr → Option AO} {d : Nat} {Q : V → (Addr → Option AO) → Prop}
theorem fn_len_lst {l : List V} (hn : l.length < 2 ^ 62) (q : Q (.int l.length) H) : Fn C d (.builtin "len") [.lst l] H Q := by
  intro P K A s vs Qc E hA hX R r k
  obtain ⟨v, rfl, r1⟩ := r.one
  obtain ⟨a, o, ws, n, rfl, hk, hc, hd, rs⟩ := r1.lst'
  have e : ((ws.toArray.size : Nat) : Int) = l.length := by rw [List.size_toArray, rs.length]
  refine call_len_list (items := ws.toArray) ⟨o, R.froz _ _ hk, hc, n, hd⟩ (by rw [e]; (first | lia | omega)) ?_
  rw [e]
  exact k _ _ H K s.heap _ (KGe.refl P K) R (.int _ _) q
theorem fn_len_tup {l : List V} (hn : l.length < 2 ^ 62) (q : Q (.int l.length) H) : Fn C d (.builtin "len") [.tup l] H Q := by
  intro P K A s vs Qc E hA hX R r k
  obtain ⟨v, rfl, r1⟩ := r.one
  obtain ⟨a, o, ws, n, rfl, hk, hc, hd, rs⟩ := r1.tup'
  have e : ((ws.toArray.size : Nat) : Int) = l.length := by rw [List.size_toArray, rs.length]
  refine len_tuple (items := ws.toArray) ⟨o, R.froz _ _ hk, hc, n, hd⟩ (by rw [e]; (first | lia | omega)) ?_
  rw [e]
  exact k _ _ H K s.heap _ (KGe.refl P K) R (.int _ _) q
theorem fn_len_H {a : Addr} {l : List V} (hH : H a = some (.list l)) (hn : l.length < 2 ^ 62) (q : Q (.int l.length) H) : Fn C d (.builtin "len") [.raw (.ref a)] H Q := by
  intro P K A s vs Qc E hA hX R r k
  obtain ⟨v, rfl, r1⟩ := r.one
  (first | cases r1.raw' | obtain ⟨_, rfl⟩ := r1.int' | obtain ⟨_, rfl⟩ := r1.str' | cases r1.bool' | cases r1)
  obtain ⟨⟨ob, ho, ws, n, rfl, rs⟩, _⟩ := R.objs _ _ hH
  have e : ((ws.size : Nat) : Int) = l.length := by rw [← Array.length_toList, ← rs.length]
  refine call_len_list (items := ws) ⟨_, ho, rfl, n, rfl⟩ (by rw [e]; (first | lia | omega)) ?_
  rw [e]
  exact k _ _ H K s.heap _ (KGe.refl P K) R (.int _ _) q
theorem fn_min2 {i j : Int} (q : Q (.int (if j < i then j else i)) H) : Fn C d (.builtin "min") [.int i, .int j] H Q := by
  intro P K A s vs Qc E hA hX R r k
  obtain ⟨v, v', rfl, r1, r2⟩ := r.two
  (first | cases r1.raw' | obtain ⟨_, rfl⟩ := r1.int' | obtain ⟨_, rfl⟩ := r1.str' | cases r1.bool' | cases r1); (first | cases r2.raw' | obtain ⟨_, rfl⟩ := r2.int' | obtain ⟨_, rfl⟩ := r2.str' | cases r2.bool' | cases r2)
  refine min_two_ints hA.hh fun h' tk hk => ?_
  split
  · rename_i h; rw [if_pos h] at q; exact k _ _ H K h' tk (KGe.refl P K) (R.grow hk) (.int _ _) q
  · rename_i h; rw [if_neg h] at q; exact k _ _ H K h' tk (KGe.refl P K) (R.grow hk) (.int _ _) q

theorem reps_ints {w : World} {K : KM} : ∀ {is : List Int} {ws : List Value}, Reps w K (is.map .int) ws → ∃ xs : List (Int × Tok), ws = xs.map (fun p => Value.int p.1 p.2) ∧ xs.map (·.1) = is
  | [], _, .nil => ⟨[], rfl, rfl⟩
  | i :: is, _, .cons h t => by
    cases h with | int _ tk =>
    obtain ⟨xs, e, e'⟩ := reps_ints t
    exact ⟨(i, tk) :: xs, by simp [e], by simp [e']⟩
theorem argBest_le {xs : Array (Int × Tok)} : ∀ k, argBest (fun i j => decide (numAt xs i < numAt xs j)) k ≤ k ∧ ∀ j, j ≤ k → numAt xs (argBest (fun i j => decide (numAt xs i < numAt xs j)) k) ≤ numAt xs j
  | 0 => ⟨Nat.le_refl _, fun j hj => by rw [Nat.le_zero.mp hj]; exact Int.le_refl _⟩
  | k + 1 => by
    obtain ⟨h1, h2⟩ := argBest_le (xs := xs) k
    unfold argBest
    by_cases c : numAt xs (k + 1) < numAt xs (argBest (fun i j => decide (numAt xs i < numAt xs j)) k)
    · rw [if_pos (by simpa using c)]
      refine ⟨Nat.le_refl _, fun j hj => ?_⟩
      rcases Nat.lt_or_ge j (k + 1) with q | q
      · have := h2 j (by (first | lia | omega)); (first | lia | omega)
      · rw [show j = k + 1 by (first | lia | omega)]; exact Int.le_refl _
    · rw [if_neg (by simpa using c)]
      refine ⟨by (first | lia | omega), fun j hj => ?_⟩
      rcases Nat.lt_or_ge j (k + 1) with q | q
      · exact h2 j (by (first | lia | omega))
      · rw [show j = k + 1 by (first | lia | omega)]; (first | lia | omega)
theorem fn_min_lst {is : List Int} (hne : is ≠ []) (q : ∀ m ∈ is, (∀ x ∈ is, m ≤ x) → Q (.int m) H) : Fn C d (.builtin "min") [.lst (is.map .int)] H Q := by
  intro P K A s vs Qc E hA hX R r k
  obtain ⟨v, rfl, r1⟩ := r.one
  obtain ⟨a, o, ws, n, rfl, hk, hc, hd, rs⟩ := r1.lst'
  obtain ⟨xs, rfl, e⟩ := reps_ints rs
  have hi : (xs.map fun p => Value.int p.1 p.2).toArray = intItems xs.toArray := by simp [intItems]
  have hl : s.heap.IsList a (intItems xs.toArray) := ⟨o, R.froz _ _ hk, hc, n, by rw [← hi]; exact hd⟩
  have hpos : 0 < xs.length := by
    cases xs with
    | nil => exact absurd e.symm hne
    | cons _ _ => simp
  refine min_intList hA.hh hl (by simpa using hpos) fun v h' tk hv hk' => ?_
  obtain ⟨b1, b2⟩ := argBest_le (xs := xs.toArray) (xs.toArray.size - 1)
  simp only [List.size_toArray] at b1 b2 hv
  generalize argBest (fun i j => decide (numAt xs.toArray i < numAt xs.toArray j)) (xs.length - 1) = t at b1 b2 hv
  have ht : t < xs.length := by (first | lia | omega)
  simp only [intItems, List.map_toArray, List.getElem?_toArray, List.getElem?_map, List.getElem?_eq_getElem ht, Option.map_some, Option.some.injEq] at hv
  subst hv
  have num : ∀ j (hj : j < xs.length), numAt xs.toArray j = xs[j].1 := fun j hj => by simp [numAt, hj]
  refine k (.int xs[t].1) _ H K h' tk (KGe.refl P K) (R.grow hk') (.int _ _) (q _ ?_ fun x hx => ?_)
  · rw [← e]; exact List.mem_map.mpr ⟨_, List.getElem_mem ht, rfl⟩
  · rw [← e] at hx
    obtain ⟨y, hy, rfl⟩ := List.mem_map.mp hx
    obtain ⟨j, hj, rfl⟩ := List.mem_iff_getElem.mp hy
    have := b2 j (by (first | lia | omega))
    rw [num t ht, num j hj] at this
    exact this
theorem preSum_eq {xs : List (Int × Tok)} : ∀ n, n ≤ xs.length → preSum (numAt xs.toArray) n = ((xs.take n).map (·.1)).sum
  | 0, _ => rfl
  | n + 1, h => by
    have hn : n < xs.length := by (first | lia | omega)
    rw [preSum, preSum_eq n (by (first | lia | omega)), List.take_add_one, List.getElem?_eq_getElem hn]
    rw [List.map_append, List.sum_append]
    simp [numAt, hn]
theorem fn_sum_lst {is : List Int} (q : Q (.int is.sum) H) : Fn C d (.builtin "sum") [.lst (is.map .int)] H Q := by
  intro P K A s vs Qc E hA hX R r k
  obtain ⟨v, rfl, r1⟩ := r.one
  obtain ⟨a, o, ws, n, rfl, hk, hc, hd, rs⟩ := r1.lst'
  obtain ⟨xs, rfl, e⟩ := reps_ints rs
  have hi : (xs.map fun p => Value.int p.1 p.2).toArray = intItems xs.toArray := by simp [intItems]
  have hl : s.heap.IsList a (intItems xs.toArray) := ⟨o, R.froz _ _ hk, hc, n, by rw [← hi]; exact hd⟩
  refine sum_intListG hA.hh hl fun h' tk t' hk' => ?_
  have es : preSum (numAt xs.toArray) xs.toArray.size = is.sum := by
    rw [List.size_toArray, preSum_eq _ (Nat.le_refl _), List.take_length, e]
  rw [es]
  exact k _ _ H K h' tk (KGe.refl P K) (R.grow hk') (.int _ _) q
theorem fn_tuple_lst {l : List V} (hn : l.length ≤ 2 ^ 20) (q : Q (.tup l) H) : Fn C d (.type "tuple") [.lst l] H Q := by
  intro P K A s vs Qc E hA hX R r k
  obtain ⟨v, rfl, r1⟩ := r.one
  obtain ⟨a, o, ws, n, rfl, hk, hc, hd, rs⟩ := r1.lst'
  refine call_tuple_list (items := ws.toArray) ⟨o, R.froz _ _ hk, hc, n, hd⟩ (fun h' hk' => ?_) (by rw [List.size_toArray, ← rs.length]; exact Nat.le_trans hn (by decide))
  obtain ⟨R₂, g₂⟩ := (R.grow hk').newK (fun _ _ e => Heap.get?_push_of_some _ e) (get_size h') (Heap.get?_push_size h' (o := { cls := .type "tuple", data := .seq ws.toArray }) rfl)
  exact k _ _ H _ _ s.toks g₂ R₂ (.tup KM.put_self rfl rfl (rs.mono g₂.le)) q
theorem fn_tuple_H {a : Addr} {l : List V} (hH : H a = some (.list l)) (hn : l.length ≤ 2 ^ 20) (q : Q (.tup l) H) : Fn C d (.type "tuple") [.raw (.ref a)] H Q := by
  intro P K A s vs Qc E hA hX R r k
  obtain ⟨v, rfl, r1⟩ := r.one
  (first | cases r1.raw' | obtain ⟨_, rfl⟩ := r1.int' | obtain ⟨_, rfl⟩ := r1.str' | cases r1.bool' | cases r1)
  obtain ⟨⟨ob, ho, ws, n, rfl, rs⟩, _⟩ := R.objs _ _ hH
  refine call_tuple_list (items := ws) ⟨_, ho, rfl, n, rfl⟩ (fun h' hk' => ?_) (by rw [← Array.length_toList, ← rs.length]; exact Nat.le_trans hn (by decide))
  obtain ⟨R₂, g₂⟩ := (R.grow hk').newK (fun _ _ e => Heap.get?_push_of_some _ e) (get_size h') (Heap.get?_push_size h' (o := { cls := .type "tuple", data := .seq ws }) rfl)
  exact k _ _ H _ _ s.toks g₂ R₂ (.tup (ws := ws.toList) (n := 0) KM.put_self rfl (by simp) (rs.mono g₂.le)) q

/- list.remove of an int -/
theorem idxOf_first {i : Int} : ∀ {is : List Int} {m : Nat}, (h : m < is.length) → is[m] = i → is.idxOf i ≤ m
  | x :: is, m, h, e => by
    rw [List.idxOf_cons]
    cases q : (x == i) with
    | true => simp
    | false =>
      cases m with
      | zero => simp only [List.getElem_cons_zero] at e; subst e; simp at q
      | succ m =>
        simp only [List.getElem_cons_succ] at e
        have := idxOf_first (by simpa using h) e
        simp; (first | lia | omega)
theorem erase_idx {i : Int} : ∀ {is : List Int}, i ∈ is → is.erase i = is.eraseIdx (is.idxOf i)
  | x :: is, h => by
    rw [List.idxOf_cons, List.erase_cons]
    cases q : (x == i) with
    | true => simp
    | false =>
      have : i ∈ is := by
        rcases List.mem_cons.mp h with rfl | h
        · simp at q
        · exact h
      simp [erase_idx this]
theorem Reps.eraseIdx {w : World} {K : KM} : ∀ {us : List V} {vs : List Value}, Reps w K us vs → ∀ j, Reps w K (us.eraseIdx j) (vs.eraseIdx j)
  | _, _, .nil, _ => by simpa using Reps.nil
  | _, _, .cons h t, 0 => by simpa using t
  | _, _, .cons h t, j + 1 => by simpa using Reps.cons h (t.eraseIdx j)
theorem map_eraseIdx' {α β : Type} {g : α → β} : ∀ {l : List α} {j : Nat}, (l.eraseIdx j).map g = (l.map g).eraseIdx j
  | [], _ => by simp
  | _ :: _, 0 => by simp
  | _ :: l, j + 1 => by simp [map_eraseIdx' (l := l) (j := j)]
theorem fn_remove {a : Addr} {is : List Int} {i : Int} (hH : H a = some (.list (is.map .int))) (hi : i ∈ is) (hn : is.length ≤ 1000) (q : Q .none (hput H a (.list ((is.erase i).map .int)))) : Fn C d (.builtin "list.remove") [.raw (.ref a), .int i] H Q := by
  intro P K A s vs Qc E hA hX R r k
  obtain ⟨v, v', rfl, r1, r2⟩ := r.two
  (first | cases r1.raw' | obtain ⟨_, rfl⟩ := r1.int' | obtain ⟨_, rfl⟩ := r1.str' | cases r1.bool' | cases r1)
  obtain ⟨u, rfl⟩ := r2.int'
  obtain ⟨⟨ob, ho, ws, n, rfl, rs⟩, _⟩ := R.objs _ _ hH
  obtain ⟨xs, e0, e⟩ := reps_ints rs
  obtain ⟨ws⟩ := ws
  simp only at e0
  subst e0
  have hlen : xs.length = is.length := by rw [← e, List.length_map]
  have hj : is.idxOf i < is.length := List.idxOf_lt_length_of_mem hi
  let ev : Value → Bool := fun v => match v with | .int y _ => y == i | _ => false
  have hnum : ∀ m (hm : m < xs.length), xs[m].1 = is[m]'(by (first | lia | omega)) := fun m hm => by simp [← e]
  have M := MeetsSeq.list_remove a (xs.map fun p => Value.int p.1 p.2).toArray n (.int i u) ev (fun y hy => by
      simp only [List.mem_toArray, List.mem_map] at hy
      obtain ⟨p, _, rfl⟩ := hy
      exact MeetsSeq.EqGives.int _ _ _ _) (is.idxOf i) (by simpa [hlen] using hj) (by simp only [List.getElem_toArray, List.getElem_map]; simp only [ev]; rw [hnum _ (by (first | lia | omega))]; simp [List.getElem_idxOf])
    (fun m hm h => by
      simp only [List.size_toArray, List.length_map] at hm
      simp only [List.getElem_toArray, List.getElem_map]; simp only [ev]; rw [hnum _ hm]
      rw [beq_eq_false_iff_ne]
      intro h'
      have := idxOf_first (by (first | lia | omega)) h'
      (first | lia | omega)) (by simp only [List.size_toArray, List.length_map, hlen]; exact Nat.le_trans hn (by decide))
  refine call_meets F.slot_list_remove ⟨_, ho, rfl⟩ F.entry_list_remove (F.args_list_remove_2 _ _) M ⟨ho, ?_⟩
  obtain ⟨n', e'⟩ := upd_exact (g := (·.eraseIdxIfInBounds (is.idxOf i))) ho
  refine k _ _ _ K _ s.toks (KGe.refl P K) (R.setH (o' := .list ((is.erase i).map .int)) hH (Heap.SameBut.update ..) e' ⟨_, n', rfl, ?_⟩) .none q
  rw [erase_idx hi, map_eraseIdx']
  have := rs.eraseIdx (is.idxOf i)
  simpa [Array.eraseIdxIfInBounds, hlen, hj] using this
end
end Mine
end

section
open PySem PySem.W PyProof.Rows PySem.Calls
set_option Elab.async false
set_option maxRecDepth 100000
set_option linter.unusedVariables false
namespace Mine
def enumV (l : List V) : List V := (List.range l.length).zipWith (fun i u => V.tup [.int (i : Nat), u]) l
theorem enumV_get {l : List V} {i : Nat} {u : V} (h : (enumV l)[i]? = some u) : ∃ x, l[i]? = some x ∧ u = .tup [.int (i : Nat), x] := by
  unfold enumV at h
  rw [List.getElem?_zipWith] at h
  cases q : l[i]? with
  | none => rw [q] at h; simp at h
  | some x =>
    have hi := (List.getElem?_eq_some_iff.mp q).1
    rw [q, List.getElem?_eq_getElem (by simpa using hi)] at h
    simp at h
    exact ⟨x, rfl, h.symm⟩
theorem enumV_length (l : List V) : (enumV l).length = l.length := by simp [enumV]

theorem wk_enum {w : World} {A : Around} {K₀ : KM} {e it l : Addr} {ws : List Value} {xs : List V} (hh : A.handled = none) (hne : e ≠ it) (hk : K₀ l ≠ none) (hle : l ≠ e) (hli : l ≠ it) (rs : Reps w K₀ xs ws) :
    Wk w A K₀ e [e, it] (enumV xs) (fun i h => (∃ old, IsEnum h e it (i : Nat) old) ∧ h.IsListIter it l i ∧ h.IsList l ws.toArray)
      (fun i v h => ∃ x a, v = .ref a ∧ IsEnumOut h e it ((i : Nat) + 1) x a ∧ h.IsListIter it l (i + 1) ∧ h.IsList l ws.toArray) false where
  mem := .head _
  stay := fun i h h' ⟨⟨old, a⟩, b, c⟩ kp => ⟨⟨old, kp _ _ (.inl (.head _)) a⟩, b.at fun o e' => kp _ _ (.inl (.tail _ (.head _))) e', c.at fun o e' => kp _ _ (.inr hk) e'⟩
  live := fun i h ⟨⟨old, a⟩, ⟨o, b, _⟩, c⟩ x hx => by
    simp at hx
    rcases hx with rfl | rfl
    · exact ⟨_, a⟩
    · exact ⟨_, b⟩
  item := fun i u K s Q E hx ⟨⟨old, a⟩, b, c⟩ le ok nw hQ => by
    obtain ⟨x, e1, rfl⟩ := enumV_get hx
    obtain ⟨v, e2, rv⟩ := rs.get e1
    refine wpAny_pyNext_enum_item a b c (x := v) (by simpa using e2) hne fun h' ho hi ht hsz kp => ?_
    have dead : s.heap.get? s.heap.objs.size = none := get_size _
    have Kd : K s.heap.objs.size = none := by
      cases q : K s.heap.objs.size with
      | none => rfl
      | some o => rw [ok _ _ q] at dead; cases dead
    have kp' : ∀ b o, b ∉ [e, it] → s.heap.get? b = some o → h'.get? b = some o := fun b o hb e' => by
      simp at hb; exact kp b o hb.1 hb.2 e'
    have g : KLe K (K.put s.heap.objs.size { cls := .type "tuple", data := .seq #[.int (i : Nat) s.toks, v] }) := KM.le_put Kd
    refine hQ _ (K.put s.heap.objs.size { cls := .type "tuple", data := .seq #[.int (i : Nat) s.toks, v] }) h' _ g (fun b o e' => ?_) (fun b o e' => ?_) ⟨v, _, rfl, ho, hi, c.at fun o e' => kp _ _ hle hli e'⟩ kp' (fun b hb => ?_)
      (.tup (ws := [.int (i : Nat) s.toks, v]) KM.put_self rfl rfl (.cons (.int _ _) (.cons ((rv.mono le).mono g) .nil)))
    · by_cases q : b = s.heap.objs.size
      · subst q; exact .inr dead
      · rw [KM.put_ne q] at e'; exact .inl e'
    · by_cases q : b = s.heap.objs.size
      · subst q; rw [KM.put_self] at e'; cases e'; exact ht
      · rw [KM.put_ne q] at e'
        exact kp' b o (fun m => by rw [nw b m] at e'; cases e') (ok b o e')
    · simp at hb
      rcases hb with rfl | rfl
      · exact ⟨_, ho⟩
      · obtain ⟨o, e', _⟩ := hi; exact ⟨_, e'⟩
  done := fun s Q E ⟨⟨old, a⟩, b, c⟩ hQ => by
    refine wpAny_pyNext_enum_end hh a b c (by simp [enumV_length, rs.length]) fun h' he => ?_
    exact hQ h' s.toks fun b o hb e' => he b o (fun q => hb (by simp [q])) e'
  self := fun i s Q E ⟨⟨old, a⟩, b, c⟩ hQ => wpAny_pyIter_enum a hQ
  goT := fun i v s Q E elts x1 pos ⟨x, a, e1, ho, hi, c⟩ hQ => by
    subst e1
    refine wpAny_letOwnedTupleGo_enum ho fun h' he hs => hQ h' ⟨⟨_, by simpa using he⟩, hi.at fun o e' => (hs.2 _ (Ne.symm hne)).trans e', c.at fun o e' => (hs.2 _ hle).trans e'⟩ fun b o hb e' => ?_
    exact (hs.2 _ fun q => hb (by simp [q])).trans e'
  goN := fun e => by cases e

section
variable {C : Cx} {f : Fm} {st : St}
inductive EnumI (Q : List V → Bool → St → Prop) (u : V) (st : St) : Prop
  | mk (l : List V) (e : u = .lst l) (q : Q (enumV l) false st)
theorem awI_enum {np pos : Pos} {e : Expr} {Q : List V → Bool → St → Prop} (hm : C.mg "enumerate" = none) (h : aw C f e (EnumI Q) st) (hk : f.sc.names.lookup (Str.ofString "enumerate") = some .globalImplicit := by rfl)
    (he : ∀ env, starEach [e] env = plainArgs [e] env := by intro _; rfl) : awI C f (.Call (.Name "enumerate" np) [e] [] pos) Q st := by
  intro P K env A s Qc E hA hE hX R k
  have hk' : env.kindOf (Str.ofString "enumerate") = some .globalImplicit := by rw [hE.kindOf]; exact hk
  refine wpAny_Call_ofName ?_
  refine Name_function_global hE.kind hk' (loadGlobal_builtin (mg := C.mg) (mb := C.mb) (by rw [hE.gl]; exact C.g.keeps (Rl.ext R hX)) hm (by rw [hE.bu]; exact C.b.keeps (Rl.ext R hX)) ((C.bb _ (by decide)).trans boot_enumerate) ?_) (by decide)
  show wpAny _ A (callWith pos (.type "enumerate") [] (backTo pos (starEach [e] env)) []) _ E _
  rw [he env, backTo_plain]
  refine wp_callWith keeps1_type ?_
  show wpAny _ A (spliced [(false, eval e env)]) _ E s
  refine spliced_cons (h P K env A s _ E hA hE hX R ?_)
  rintro u v st₁ K₁ h₁ tk₁ g₁ R₁ r ⟨l, rfl, q⟩
  refine spliced_nil ?_
  refine ⟨fun b o e => Rl.ext R₁ hX b o e, ?_⟩
  obtain ⟨a, o, ws, n, rfl, hkk, hc, hd, rs⟩ := r.lst'
  have hl : h₁.IsList a ws.toArray := ⟨o, R₁.rh.froz _ _ hkk, hc, n, hd⟩
  have lt : a < h₁.objs.size := Heap.lt_size (R₁.rh.froz _ _ hkk)
  refine call_enumerate_list hl fun h' he hi hsz kp => ?_
  refine wpAny_pyIter_enum he ?_
  have R₂ := R₁.grow kp
  refine k _ _ st₁ K₁ h' _ _ [h₁.objs.size + 1, h₁.objs.size] _ _ g₁ R₂ (wk_enum hA.hh (Nat.succ_ne_self _) (by rw [hkk]; simp) (Nat.ne_of_lt (Nat.lt_succ_of_lt lt)) (Nat.ne_of_lt lt) rs) ⟨⟨_, he⟩, hi, hl.at fun o e => kp _ _ e⟩ (fun b hb => ?_) q
  simp at hb
  rcases hb with rfl | rfl
  · refine R₁.idle ?_
    cases q : h₁.get? (h₁.objs.size + 1) with
    | none => rfl
    | some o => exact absurd (Heap.lt_size q) (Nat.not_lt.mpr (Nat.le_succ _))
  · exact R₁.idle (get_size h₁)

/-- for .. in range(..), by what range makes of its arguments -/
inductive RangI (Q : List V → Bool → St → Prop) (us : List V) (st : St) : Prop
  | mk (a b c : Int) (n : Nat) (hus : (us = [.int b] ∧ a = 0 ∧ c = 1) ∨ (us = [.int a, .int b] ∧ c = 1) ∨ us = [.int a, .int b, .int c]) (hc : c ≠ 0) (hp : Builtin.divisionGoesByPylong (b - a) c = false)
      (hs : Builtin.Range.small a b c = true) (hn : Builtin.Range.rangeSize a b c = (n : Nat)) (q : Q (rangeV a c n) true st)
theorem awI_range {np pos : Pos} {es : List Expr} {Q : List V → Bool → St → Prop} (hm : C.mg "range" = none) (h : aws C f es (RangI Q) st) (hk : f.sc.names.lookup (Str.ofString "range") = some .globalImplicit := by rfl)
    (he : ∀ env, starEach es env = plainArgs es env := by intro _; rfl) : awI C f (.Call (.Name "range" np) es [] pos) Q st := by
  intro P K env A s Qc E hA hE hX R k
  have hk' : env.kindOf (Str.ofString "range") = some .globalImplicit := by rw [hE.kindOf]; exact hk
  refine wpAny_Call_ofName ?_
  refine Name_function_global hE.kind hk' (loadGlobal_builtin (mg := C.mg) (mb := C.mb) (by rw [hE.gl]; exact C.g.keeps (Rl.ext R hX)) hm (by rw [hE.bu]; exact C.b.keeps (Rl.ext R hX)) ((C.bb _ (by decide)).trans boot_range) ?_) (by decide)
  show wpAny _ A (callWith pos (.type "range") [] (backTo pos (starEach es env)) []) _ E _
  rw [he env, backTo_plain]
  refine wp_callWith keeps1_type (aws_plain h he P K env A _ _ E hA hE hX R ?_)
  rintro us vs st₁ K₁ h₁ tk₁ g₁ R₁ r ⟨a, b, c, n, hus, hc, hp, hsm, hn, q⟩
  refine ⟨fun b o e => Rl.ext R₁ hX b o e, ?_⟩
  have fin : ∀ t u v tk, wpAny (MM C.w) A (pyIter (.ref h₁.objs.size)) Qc E { s with heap := h₁.push { cls := .type "range", data := .fields #[.int a t, .int b u, .int c v] }, toks := tk } := fun t u v tk => by
    refine wpAny_pyIter_range (IsRange.new h₁ a b c t u v) hsm ?_
    have R₂ := (R₁.push { cls := .type "range", data := .fields #[.int a t, .int b u, .int c v] })
    have R₃ := R₂.push { cls := .type "range_iterator", data := .fields #[rawInt a, rawInt (Builtin.Range.rangeSize a b c), rawInt c] }
    refine k _ _ st₁ K₁ _ tk _ [(h₁.push { cls := .type "range", data := .fields #[.int a t, .int b u, .int c v] }).objs.size] _ _ g₁ R₃ (wk_range hA.hh) ?_ (fun b hb => ?_) q
    · have := Heap.get?_push_size (h₁.push { cls := .type "range", data := .fields #[.int a t, .int b u, .int c v] }) (o := { cls := .type "range_iterator", data := .fields #[rawInt a, rawInt (Builtin.Range.rangeSize a b c), rawInt c] }) rfl
      show Heap.get? _ _ = _
      rw [this, hn]; simp
    · simp only [List.mem_singleton] at hb; subst hb; exact R₂.idle (get_size _)
  rcases hus with ⟨rfl, rfl, rfl⟩ | ⟨rfl, rfl⟩ | rfl
  · obtain ⟨v, rfl, r1⟩ := r.one
    (first | cases r1.raw' | obtain ⟨_, rfl⟩ := r1.int' | obtain ⟨_, rfl⟩ := r1.str' | cases r1.bool' | cases r1)
    exact call_range_1 (fin _ _ _ _)
  · obtain ⟨v, v', rfl, r1, r2⟩ := r.two
    (first | cases r1.raw' | obtain ⟨_, rfl⟩ := r1.int' | obtain ⟨_, rfl⟩ := r1.str' | cases r1.bool' | cases r1); (first | cases r2.raw' | obtain ⟨_, rfl⟩ := r2.int' | obtain ⟨_, rfl⟩ := r2.str' | cases r2.bool' | cases r2)
    exact call_range_2 (fin _ _ _ _)
  · obtain ⟨v, v', v'', rfl, r1, r2, r3⟩ := r.three
    (first | cases r1.raw' | obtain ⟨_, rfl⟩ := r1.int' | obtain ⟨_, rfl⟩ := r1.str' | cases r1.bool' | cases r1); (first | cases r2.raw' | obtain ⟨_, rfl⟩ := r2.int' | obtain ⟨_, rfl⟩ := r2.str' | cases r2.bool' | cases r2); (first | cases r3.raw' | obtain ⟨_, rfl⟩ := r3.int' | obtain ⟨_, rfl⟩ := r3.str' | cases r3.bool' | cases r3)
    exact call_range_3 hc (fin _ _ _ _) (.inl hp)
theorem rsize_one {a b : Int} : Builtin.Range.rangeSize a b 1 = ((b - a).toNat : Nat) := by
  unfold Builtin.Range.rangeSize
  split <;> rename_i h
  · simp only [Int.ediv_one]; split <;> (first | lia | omega)
  · (first | lia | omega)
end
end Mine
end

section
open PySem PySem.W PyProof.Rows PySem.Calls
set_option Elab.async false
set_option maxRecDepth 100000
set_option linter.unusedVariables false
namespace Mine
def mle (m m' : Str → Option V) : Prop := ∀ x u, m x = some u → m' x = some u
theorem mle.refl (m : Str → Option V) : mle m m := fun _ _ e => e
theorem mle.trans {m m' m'' : Str → Option V} (a : mle m m') (b : mle m' m'') : mle m m'' := fun x u e => b x u (a x u e)
theorem mle.put {m m' : Str → Option V} {x : Str} {u : V} (a : mle m m') (h : m x = none) : mle m (mput m' x u) := fun y t e => by
  by_cases q : y = x
  · subst q; rw [h] at e; cases e
  · rw [mput_ne q]; exact a y t e

theorem Rl.back' {w : World} {P Pc K K' : KM} {env : Env} {ow : Bool} {st : St} {h h' : Heap} {H' : Addr → Option AO} (R : Rl w P K env ow st h) (hP : ∀ a o, P a = some o → Pc a = some o) (hL : ∀ o, h.get? env.locals = some o → Pc env.locals = some o)
    (hC : ow = true → ∀ c ∈ env.cells.map (·.2), ∀ o, h.get? c = some o → Pc c = some o) (g : KGe Pc K K') (R' : RH w Pc K' H' h') : Rl w P K' env ow { st with H := H' } h' ∧ KGe P K K' := by
  obtain ⟨m', ⟨oL, es, ep, eL, rL⟩, qL⟩ := R.ns
  have sL : Pc env.locals = some oL := hL _ eL
  have Knone : ∀ a, K a = none → (∃ o, Pc a = some o) → K' a = none := fun a e ⟨o, s⟩ => by
    cases q : K' a with
    | none => rfl
    | some x => rcases g.2 a x q with y | y
                · rw [e] at y; cases y
                · rw [s] at y; cases y
  refine ⟨⟨⟨fun a o e => R'.prot a o (hP a o e), R'.froz, fun a o e => ?_⟩, fun a o e => ⟨?_, fun q hc => ?_⟩, ⟨m', ⟨oL, es, ep, R'.prot _ _ sL, rL⟩, fun x u e k => let ⟨v, e1, r⟩ := qL x u e k; ⟨v, e1, r.mono g.le⟩⟩,
    ⟨R.loc.1, Knone _ R.loc.2 ⟨_, sL⟩⟩, fun x u e k => ?_, fun q => ⟨(R.own q).loc, fun c hc => ?_, (R.own q).nod, (R.own q).has⟩, R.pro⟩, g.lessP fun a e => ?_⟩
  · obtain ⟨e1, e2, e3⟩ := R'.objs a o e
    refine ⟨e1, ?_, e3⟩
    cases q : P a with
    | none => rfl
    | some x => rw [hP a x q] at e2; cases e2
  · rintro rfl; have := (R'.objs _ o e).2.1; rw [sL] at this; cases this
  · obtain ⟨_, _, v, ob, e1, d⟩ := (R.own q).cel a hc
    have := (R'.objs _ o e).2.1; rw [hC q a hc ob e1] at this; cases this
  · obtain ⟨c, v, e1, ⟨o1, e2, e3⟩, r1⟩ := R.cel x u e k
    have s : Pc c = some o1 := by
      cases q : ow with
      | true => exact hC q c (mem_cells e1) o1 e2
      | false => obtain ⟨o, e⟩ := R.pro q _ (mem_cells e1); have := R.rh.prot c o e; rw [e2] at this; cases this; exact hP _ _ e
    exact ⟨c, v, e1, ⟨o1, R'.prot _ _ s, e3⟩, r1.mono g.le⟩
  · obtain ⟨e1, e2, v, ob, e3, d⟩ := (R.own q).cel c hc
    have s := hC q c hc ob e3
    exact ⟨e1, Knone _ e2 ⟨_, s⟩, v, ob, R'.prot _ _ s, d⟩
  · cases q : P a with
    | none => rfl
    | some x => rw [hP a x q] at e; cases e

/-- the list that a comprehension fills -/
structure AccIs (w : World) (P K : KM) (env : Env) (ow : Bool) (st : St) (h : Heap) (D : Addr) (ys : List V) : Prop where
  idle : Idle P K env ow st D
  obj : ∃ ws n, h.get? D = some { cls := .type "list", data := .seq ws n } ∧ Reps w K ys ws.toList
def tgOk (t : Expr) (nm : Bool) : Prop := (∃ a b c, t = .Tuple a b c) ∨ ((∃ a b, t = .Name a b) ∧ nm = true)

section
variable (C : Cx) (f : Fm)
def eltU (Q : List V → St → Prop) (ys : List V) (y : V) (st : St) : Prop := Q (ys ++ [y]) st
structure EltQ (elt : Expr) (Q : List V → St → Prop) (ys : List V) (st : St) : Prop where
  n : ys.length ≤ 2 ^ 24
  q : aw C f elt (eltU Q ys) st
inductive GenQ (t : Expr) (go : (List V → St → Prop) → List V → St → Prop) (Q : List V → St → Prop) (ys : List V) (xs : List V) (nm : Bool) (st : St) : Prop
  | mk (tg : tgOk t nm) (Inv : Nat → List V → St → Prop) (i0 : Inv 0 ys st) (turn : ∀ i u ys' st₂, xs[i]? = some u → Inv i ys' st₂ → aas C f t u (go (Inv (i + 1)) ys') st₂) (done : ∀ ys' st₂, Inv xs.length ys' st₂ → Q ys' st₂)
structure GenP (g : Comprehension) (go : (List V → St → Prop) → List V → St → Prop) (Q : List V → St → Prop) (ys : List V) (st : St) : Prop where
  i : g.ifs = []
  a : g.is_async = 0
  s : ∀ env x, foldedSetIterable g.iter env x = pure x
  q : awI C f g.iter (GenQ C f g.target go Q ys) st
def acL (elt : Expr) : List Comprehension → (List V → St → Prop) → List V → St → Prop
  | [] => EltQ C f elt
  | g :: gs => GenP C f g (acL elt gs)
end

def innerT (elt : Expr) (gens : List Comprehension) (scope : Scope) (pos : Pos) (k : Nat) (acc : Value) (env : Env) : Sem Unit :=
  match gens[k]? with
  | some g' => eval g'.iter env >>= fun x => standAt g'.iter.pos >>= fun _ => foldedSetIterable g'.iter env x >>= fun x => holding [x] (pyIter x) >>= fun it => runOwn (.compStart (.ListComp elt gens scope pos) k it acc env) env >>= fun _ => pure ()
  | none => eval elt env >>= fun x => call (.builtin "list.append") [acc, x] >>= fun _ => pure ()
theorem compTurn_gen {elt : Expr} {gens : List Comprehension} {scope : Scope} {pos : Pos} {k : Nat} {it acc : Value} {env : Env} {g : Comprehension} (hg : gens[k]? = some g) (hi : g.ifs = []) (ha : g.is_async = 0)
    (hs : ∀ g', gens[k + 1]? = some g' → g'.is_async = 0) :
    compTurn (.ListComp elt gens scope pos) k it acc env = (standAt g.iter.pos >>= fun _ => pyNext it >>= fun r => match r with
      | none => pure (.done .next)
      | some v => letOwnedTupleGo g.target it v >>= fun _ => assign g.target env v >>= fun _ => innerT elt gens scope pos (k + 1) acc env >>= fun _ => again (.compLoop (.ListComp elt gens scope pos) k it acc env)) := by
  unfold compTurn innerT
  simp only [hg, hi, ha]
  cases q : gens[k + 1]? with
  | none => simp <;> rfl
  | some g' => simp [hs g' q] <;> rfl
end Mine
namespace Mine
section
variable {C : Cx} {f : Fm}
theorem wp_compLoop {prog : Program} {w : World} {A : Around} {R : Result → Shared → Prop} {s : Shared} {elt : Expr} {gens : List Comprehension} {scope : Scope} {pos : Pos} {k : Nat} {it acc : Value} {env : Env} {g : Comprehension} (hg : gens[k]? = some g) (hi : g.ifs = []) (ha : g.is_async = 0)
    (hs : ∀ g', gens[k + 1]? = some g' → g'.is_async = 0) (I : Nat → Shared → Prop)
    (turn : ∀ n s, I n s → wpAny (model prog w) A (pyNext it) (fun r s₁ => match r with
      | none => R (.ok .next) s₁
      | some v => wpAny (model prog w) A (letOwnedTupleGo g.target it v) (fun _ s₁' => wpAny (model prog w) A (assign g.target env v) (fun _ s₂ => wpAny (model prog w) A (innerT elt gens scope pos (k + 1) acc env) (fun _ s₃ => ∃ m, m < n ∧ I m s₃)
          (notedBy (model prog w) A env fun e s' => R (.error e) s') s₂) (notedBy (model prog w) A env fun e s' => R (.error e) s') s₁') (notedBy (model prog w) A env fun e s' => R (.error e) s') s₁) (notedBy (model prog w) A env fun e s' => R (.error e) s') s)
    (n : Nat) (h : I n s) : codeAny (model prog w) A (.compLoop (.ListComp elt gens scope pos) k it acc env) R s := by
  refine codeAny_loop rfl I (fun n s hI => ?_) n h
  show wpAny _ _ ((compTurn (.ListComp elt gens scope pos) k it acc env).onRaise (fun x => do noteFrame x env; theTreesLotGoes x)) _ _ s
  refine wpAny_noted ?_
  rw [compTurn_gen hg hi ha hs]
  refine wpAny_bind (wpAny_standAt (wpAny_bind (wpAny_mono (turn n s hI) (fun r s₁ h₁ => ?_) fun _ _ h' => h')))
  cases r with
  | none => exact wpAny_pure h₁
  | some v =>
    refine wpAny_bind (wpAny_mono h₁ (fun _ s₁' h₁' => ?_) fun _ _ h' => h')
    refine wpAny_bind (wpAny_mono h₁' (fun _ s₂ h₂ => ?_) fun _ _ h' => h')
    refine wpAny_bind (wpAny_mono h₂ (fun _ s₃ h₃ => ?_) fun _ _ h' => h')
    exact wpAny_pure ⟨rfl, h₃⟩
theorem wp_compStart {prog : Program} {w : World} {A : Around} {R : Result → Shared → Prop} {s : Shared} {elt : Expr} {gens : List Comprehension} {scope : Scope} {pos : Pos} {k : Nat} {I acc : Value} {env : Env} {g : Comprehension} (hg : gens[k]? = some g) (ha : g.is_async = 0)
    (hself : ∀ (Q : Value → Shared → Prop) (E : Value → Shared → Prop), Q I s → wpAny (model prog w) A (pyIter I) Q E s)
    (h : codeAny (model prog w) A (.compLoop (.ListComp elt gens scope pos) k I acc env) R s) : codeAny (model prog w) A (.compStart (.ListComp elt gens scope pos) k I acc env) R s := by
  refine codeAny_of_tree ?_
  show wpAny _ _ ((compStart (.ListComp elt gens scope pos) k I acc env).onRaise (fun x => do noteFrame x env; standAt theWindowsPlace)) _ _ s
  refine wpAny_notedAt ?_
  have hc : (clausesOf (.ListComp elt gens scope pos))[k]? = some g := hg
  unfold compStart
  rw [hc]
  simp only [Option.elim_some, ha, bne_self_eq_false, Bool.false_eq_true, if_false]
  show wpAny _ _ (ask >>= _) _ _ s
  refine wpAny_bind (wpAny_askSetting (wpAny_ite ?_))
  split
  · first
      | exact wpAny_bind (wpAny_pure (wpAny_pure (And.intro rfl h)))
      | exact wpAny_pure (And.intro rfl h)
  · have fin : wpAny (model prog w) A (pyIter I >>= fun it => again (.compLoop (.ListComp elt gens scope pos) k it acc env)) (fun fin s' => match fin with | .done f => R (.ok f) s' | .again c' => c'.quiet = true ∧ codeAny (model prog w) A c' R s') (notedBy (model prog w) A env fun x s' => R (.error x) s') s :=
      wpAny_bind (hself _ _ (wpAny_pure ⟨rfl, h⟩))
    first
      | exact wpAny_bind (wpAny_rule (wpAny_bind (wpAny_standAt fin)))
      | exact wpAny_rule (wpAny_standAt fin)

/-- what the inner part of a turn does -/
def InnerOk (C : Cx) (f : Fm) (t : Value → Env → Sem Unit) (Q : List V → St → Prop) (ys : List V) (st : St) : Prop :=
  ∀ (P K : KM) (env : Env) (A : Around) (s : Shared) (D : Addr) (Qc : Unit → Shared → Prop) (E : Value → Shared → Prop), Okd A f.d → EnvOk f env → Ext C.hb P → Rl C.w P K env f.ow st s.heap → AccIs C.w P K env f.ow st s.heap D ys →
    (∀ ys' st' K' h' tk, KGe P K K' → Rl C.w P K' env f.ow st' h' → AccIs C.w P K' env f.ow st' h' D ys' → Q ys' st' → Qc () { s with heap := h', toks := tk }) → wpAny (MM C.w) A (t (.ref D) env) Qc E s

theorem AccIs.guard {w : World} {P K K' : KM} {env : Env} {ow : Bool} {st st' : St} {h h' : Heap} {D : Addr} {ys : List V} (a : AccIs w P K env ow st h D ys) {wr : List Addr} (m : D ∈ wr) (R : Rl w (guardP P wr h) K' env ow st' h') (g : KGe (guardP P wr h) K K') : AccIs w P K' env ow st' h' D ys := by
  obtain ⟨ws, n, e, r⟩ := a.obj
  refine ⟨R.idleOf g m a.idle.p a.idle.k ⟨_, e⟩ a.idle.c, ws, n, R.rh.prot _ _ (by rw [guardP_in m]; exact e), r.mono g.le⟩

theorem loop_sound {elt : Expr} {gens : List Comprehension} {scope : Scope} {pos : Pos} {k : Nat} {g : Comprehension} {gs : List Comprehension} (hg : gens[k]? = some g) (hi : g.ifs = []) (ha : g.is_async = 0) (hs : ∀ g', gens[k + 1]? = some g' → g'.is_async = 0)
    (IH : ∀ Q ys st, acL C f elt gs Q ys st → InnerOk C f (innerT elt gens scope pos (k + 1)) Q ys st)
    {P K : KM} {env : Env} {A : Around} {s : Shared} {D I : Addr} {wr : List Addr} {xs : List V} {S : Nat → Heap → Prop} {So : Nat → Value → Heap → Prop} {nm : Bool} {st : St} {ys : List V} {Q : List V → St → Prop} {R : Result → Shared → Prop} {Inv : Nat → List V → St → Prop}
    (hA : Okd A f.d) (hE : EnvOk f env) (hX : Ext C.hb P) (R0 : Rl C.w P K env f.ow st s.heap) (a0 : AccIs C.w P K env f.ow st s.heap D ys) (W : Wk C.w A K I wr xs S So nm) (s0 : S 0 s.heap) (idl : ∀ b ∈ wr, Idle P K env f.ow st b) (hD : D ∉ wr) (htg : tgOk g.target nm)
    (i0 : Inv 0 ys st) (turn : ∀ i u ys' st₂, xs[i]? = some u → Inv i ys' st₂ → aas C f g.target u (acL C f elt gs (Inv (i + 1)) ys') st₂) (done : ∀ ys' st₂, Inv xs.length ys' st₂ → Q ys' st₂)
    (hR : ∀ ys' st' K' h' tk, KGe P K K' → Rl C.w P K' env f.ow st' h' → AccIs C.w P K' env f.ow st' h' D ys' → Q ys' st' → R (.ok .next) { s with heap := h', toks := tk }) :
    codeAny (MM C.w) A (.compLoop (.ListComp elt gens scope pos) k (.ref I) (.ref D) env) R s := by
  refine wp_compLoop hg hi ha hs
    (fun n s' => ∃ i st₂ K₂ h₂ tk₂ ys₂, n = xs.length + 1 - i ∧ i ≤ xs.length ∧ s' = { s with heap := h₂, toks := tk₂ } ∧ KGe P K K₂ ∧ Rl C.w P K₂ env f.ow st₂ h₂ ∧ S i h₂ ∧ (∀ b ∈ wr, Idle P K₂ env f.ow st₂ b) ∧ AccIs C.w P K₂ env f.ow st₂ h₂ D ys₂ ∧ Inv i ys₂ st₂)
    ?_ (xs.length + 1) ⟨0, st, K, s.heap, s.toks, ys, by (first | lia | omega), by (first | lia | omega), rfl, KGe.refl P K, R0, s0, idl, a0, i0⟩
  rintro n s' ⟨i, st₂, K₂, h₂, tk₂, ys₂, rfl, hle, rfl, g₂, R₂, si, idl₂, a₂, inv⟩
  have notMat : ∀ {K' : KM} {st' : St} {a : Addr}, Idle P K' env f.ow st' a → ¬ Mat P K' env f.ow st' a := fun i hm => by
    rcases hm with q | q | q | q | ⟨_, q⟩
    · exact q i.p
    · exact q i.k
    · exact q i.h
    · exact i.l q
    · exact i.c q
  by_cases hlt : i < xs.length
  · refine W.item i xs[i] K₂ _ _ _ (by simp [hlt]) si g₂.le R₂.rh.froz (fun b hb => (idl₂ b hb).k) ?_
    intro v K₃ h₃ tk₃ le₃ fr₃ ok₃ so kp₃ lv₃ rv
    have R₂' : Rl C.w P K₂ env f.ow st₂ h₃ := R₂.keep fun a o hm e => kp₃ a o (fun m => notMat (idl₂ a m) hm) e
    have fr₃' : ∀ a o, K₃ a = some o → K₂ a = some o ∨ Idle P K₂ env f.ow st₂ a := fun a o e => (fr₃ a o e).imp id fun d => R₂.idle d
    obtain ⟨R₃, g₃⟩ := R₂'.moreK le₃ fr₃' ok₃
    have nK : ∀ b, K₂ b = none → (∃ o, h₂.get? b = some o) → K₃ b = none := fun b e ⟨o', e'⟩ => by
      cases q : K₃ b with
      | none => rfl
      | some o => rcases fr₃ b o q with y | y
                  · rw [e] at y; cases y
                  · have y : h₂.get? b = none := y
                    rw [e'] at y; cases y
    have idl₃ : ∀ b ∈ wr, Idle P K₃ env f.ow st₂ b := fun b hb => (idl₂ b hb).mono (nK b (idl₂ b hb).k (W.live i _ si b hb))
    obtain ⟨ws, nn, eD, rD⟩ := a₂.obj
    have a₃ : AccIs C.w P K₃ env f.ow st₂ h₃ D ys₂ := ⟨a₂.idle.mono (nK D a₂.idle.k ⟨_, eD⟩), ws, nn, kp₃ _ _ hD eD, rD.mono le₃⟩
    have go : ∀ (Qg : Unit → Shared → Prop) (Eg : Value → Shared → Prop), (∀ h₄, S (i + 1) h₄ → (∀ b o, b ∉ wr → h₃.get? b = some o → h₄.get? b = some o) → Qg () { s with heap := h₄, toks := tk₃ }) →
        wpAny (MM C.w) A (letOwnedTupleGo g.target (.ref I) v) Qg Eg { s with heap := h₃, toks := tk₃ } := fun Qg Eg hq => by
      rcases htg with ⟨a, b, c, e⟩ | ⟨⟨a, b, e⟩, nm1⟩
      · rw [e]; exact W.goT i v _ Qg Eg a b c so fun h' s' kp' => hq h' s' kp'
      · rw [e]; exact wpAny_pure (hq h₃ (W.goN nm1 i v h₃ so) fun _ _ _ e => e)
    refine go _ _ fun h₄ s4 kp₄ => ?_
    have R₄ : Rl C.w P K₃ env f.ow st₂ h₄ := R₃.keep fun a o hm e => kp₄ a o (fun m => notMat (idl₃ a m) hm) e
    have a₄ : AccIs C.w P K₃ env f.ow st₂ h₄ D ys₂ := let ⟨ws, nn, e, r⟩ := a₃.obj; ⟨a₃.idle, ws, nn, kp₄ _ _ hD e, r⟩
    have idG : ∀ b ∈ D :: wr, Idle P K₃ env f.ow st₂ b := fun b hb => by
      rcases List.mem_cons.mp hb with rfl | hb
      · exact a₄.idle
      · exact idl₃ b hb
    have gpD : ∀ b ∈ D :: wr, P b = none := fun b hb => (idG b hb).p
    have RG := R₄.guard idG
    refine turn i xs[i] ys₂ st₂ (by simp [hlt]) inv (guardP P (D :: wr) h₄) K₃ env A _ v _ _ hA hE (fun a o e => guard_le gpD a o (hX a o e)) RG rv ?_
    intro st₅ K₅ h₅ tk₅ g₅ R₅ q
    have a₅ : AccIs C.w P K₅ env f.ow st₅ h₅ D ys₂ := a₄.guard (.head _) R₅ g₅
    -- the inner part, the iterator kept
    have gp : ∀ b ∈ wr, P b = none := fun b hb => (idl₃ b hb).p
    have idl₅ : ∀ b ∈ wr, Idle P K₅ env f.ow st₅ b := fun b hb => R₅.idleOf g₅ (.tail _ hb) (gp b hb) (idl₃ b hb).k (W.live (i + 1) h₄ s4 b hb) (idl₃ b hb).c
    have R₅' : Rl C.w P K₅ env f.ow st₅ h₅ := R₅.weakP (guard_le gpD) R0.pro
    have RI := R₅'.guard idl₅
    have aI : AccIs C.w (guardP P wr h₅) K₅ env f.ow st₅ h₅ D ys₂ := let ⟨ws, nn, e, r⟩ := a₅.obj; ⟨⟨by rw [guardP_out hD]; exact a₅.idle.p, a₅.idle.k, a₅.idle.h, a₅.idle.l, a₅.idle.c⟩, ws, nn, e, r⟩
    refine IH _ _ _ q (guardP P wr h₅) K₅ env A _ D _ _ hA hE (fun a o e => guard_le gp a o (hX a o e)) RI aI ?_
    intro ys₆ st₆ K₆ h₆ tk₆ g₆ R₆ a₆ inv'
    have R₇ : Rl C.w P K₆ env f.ow st₆ h₆ := R₆.weakP (guard_le gp) R0.pro
    have G : KGe P K K₆ := ((g₂.trans g₃).trans (g₅.lessP (guard_no gpD))).trans (g₆.lessP (guard_no gp))
    have a₇ : AccIs C.w P K₆ env f.ow st₆ h₆ D ys₆ := let ⟨ws, nn, e, r⟩ := a₆.obj; ⟨⟨a₅.idle.p, a₆.idle.k, a₆.idle.h, a₆.idle.l, a₆.idle.c⟩, ws, nn, e, r⟩
    have s5 : S (i + 1) h₅ := W.stay (i + 1) h₄ h₅ s4 fun b o hb e => by
      by_cases m : b ∈ wr
      · exact R₅.rh.prot b o (by rw [guardP_in (.tail _ m)]; exact e)
      · rcases hb with hb | hb
        · exact absurd hb m
        · cases q : K b with
          | none => exact absurd q hb
          | some o' =>
            have e1 := le₃ b o' (g₂.le b o' q)
            have e2 := R₄.rh.froz b o' e1
            rw [e] at e2; cases e2
            exact R₅.rh.froz b o (g₅.le b o e1)
    refine ⟨xs.length + 1 - (i + 1), by (first | lia | omega), i + 1, st₆, K₆, h₆, tk₆, ys₆, rfl, by (first | lia | omega), rfl, G, R₇, ?_, fun b hb => ?_, a₇, inv'⟩
    · refine W.stay (i + 1) h₅ h₆ s5 fun b o hb e => ?_
      by_cases m : b ∈ wr
      · exact R₆.rh.prot b o (by rw [guardP_in m]; exact e)
      · rcases hb with hb | hb
        · exact absurd hb m
        · cases q : K b with
          | none => exact absurd q hb
          | some o' =>
            have e1 := g₅.le b o' (le₃ b o' (g₂.le b o' q))
            have e2 := R₅'.rh.froz b o' e1
            rw [e] at e2; cases e2
            exact R₆.rh.froz b o (g₆.le b o e1)
    · exact R₆.idleOf g₆ hb (gp b hb) (idl₅ b hb).k (W.live (i + 1) h₅ s5 b hb) (idl₅ b hb).c
  · have : i = xs.length := by (first | lia | omega)
    subst this
    refine W.done _ _ _ si fun h' tk' kp => ?_
    have R₃ : Rl C.w P K₂ env f.ow st₂ h' := R₂.keep fun a o hm e => kp a o (fun m => notMat (idl₂ a m) hm) e
    obtain ⟨ws, nn, e, r⟩ := a₂.obj
    exact hR ys₂ st₂ K₂ h' tk' g₂ R₃ ⟨a₂.idle, ws, nn, kp _ _ hD e, r⟩ (done ys₂ st₂ inv)

theorem inner_sound {elt : Expr} {gens : List Comprehension} {scope : Scope} {pos : Pos} (hall : ∀ g' ∈ gens, g'.is_async = 0) : ∀ (gs : List Comprehension) (k : Nat), gens.drop k = gs → ∀ Q ys st, acL C f elt gs Q ys st → InnerOk C f (innerT elt gens scope pos k) Q ys st
  | [], k, hk, Q, ys, st, h => by
    intro P K env A s D Qc E hA hE hX R a kq
    have hg : gens[k]? = none := by
      have := List.drop_eq_nil_iff.mp hk
      simpa using this
    unfold innerT
    rw [hg]
    dsimp only
    obtain ⟨hl, h⟩ := h
    have gp : ∀ b ∈ [D], P b = none := fun b hb => by simp at hb; subst hb; exact a.idle.p
    have idG : ∀ b ∈ [D], Idle P K env f.ow st b := fun b hb => by simp at hb; subst hb; exact a.idle
    refine wpAny_bind (h (guardP P [D] s.heap) K env A s _ E hA hE (fun b o e => guard_le gp b o (hX b o e)) (R.guard idG) ?_)
    intro y v st' K' h' tk g R' rv q
    have a' := a.guard (.head _) R' g
    obtain ⟨ws, n, eD, rD⟩ := a'.obj
    obtain ⟨n', e'⟩ := upd_exact (g := (·.push v)) eD
    refine wpAny_bind (wp_append eD (wpAny_pure ?_) (by rw [← Array.length_toList, ← rD.length]; exact hl))
    have hs := Heap.SameBut.update h' D (Obj.mapSeq (·.push v))
    have R'' : Rl C.w P K' env f.ow st' h' := R'.weakP (guard_le gp) R.pro
    refine kq _ st' K' _ tk (g.lessP (guard_no gp)) (R''.keep fun b o hm e => (hs.2 b (fun q => ?_)).trans e) ⟨a'.idle, _, n', e', by simpa using rD.append (.cons rv .nil)⟩ q
    subst q
    rcases hm with q | q | q | q | ⟨_, q⟩
    · exact q a'.idle.p
    · exact q a'.idle.k
    · exact q a'.idle.h
    · exact a'.idle.l q
    · exact a'.idle.c q
  | g :: gs, k, hk, Q, ys, st, h => by
    intro P K env A s D Qc E hA hE hX R a kq
    have hlt : k < gens.length := by
      rcases Nat.lt_or_ge k gens.length with q | q
      · exact q
      · rw [List.drop_eq_nil_iff.mpr q] at hk; cases hk
    have hk' := List.drop_eq_getElem_cons hlt
    rw [hk] at hk'
    obtain ⟨e1, e2⟩ := List.cons.inj hk'
    have hg : gens[k]? = some g := by rw [List.getElem?_eq_getElem hlt, ← e1]
    obtain ⟨hi, ha, hf, h⟩ := h
    unfold innerT
    rw [hg]
    dsimp only
    have gp : ∀ b ∈ [D], P b = none := fun b hb => by simp at hb; subst hb; exact a.idle.p
    have idG : ∀ b ∈ [D], Idle P K env f.ow st b := fun b hb => by simp at hb; subst hb; exact a.idle
    refine wpAny_bind (wpAny_mono (h (guardP P [D] s.heap) K env A s (fun it s' => wpAny (MM C.w) A (runOwn (.compStart (.ListComp elt gens scope pos) k it (.ref D) env) env >>= fun _ => pure ()) Qc E s') E hA hE (fun b o e => guard_le gp b o (hX b o e)) (R.guard idG) ?_) (fun x s₁ h₁ => ?_) fun _ _ e => e)
    · rintro xs nm st₁ K₁ h₁ tk₁ I wr S So g₁ R₁ W s0 idl ⟨htg, Inv, i0, turn, done⟩
      have a₁ := a.guard (.head _) R₁ g₁
      have R₁' : Rl C.w P K₁ env f.ow st₁ h₁ := R₁.weakP (guard_le gp) R.pro
      have hDw : D ∉ wr := fun m => by
        have := (idl D m).p
        obtain ⟨ws, n, e, _⟩ := a.obj
        rw [guardP_in (.head _)] at this; rw [e] at this; cases this
      have idl' : ∀ b ∈ wr, Idle P K₁ env f.ow st₁ b := fun b hb => ⟨guard_no gp b (idl b hb).p, (idl b hb).k, (idl b hb).h, (idl b hb).l, (idl b hb).c⟩
      refine wpAny_bind (wpAny_runOwn ?_)
      refine wp_compStart hg ha (fun Q' E' hq => W.self 0 _ Q' E' s0 hq) ?_
      refine loop_sound (gs := gs) hg hi ha (fun g' e => ?_) (fun Q ys st h => inner_sound hall gs (k + 1) e2.symm Q ys st h) hA hE hX R₁' a₁ W s0 idl' hDw htg i0 turn done ?_
      · exact hall g' (List.mem_of_getElem? e)
      · intro ys' st' K' h' tk g' R' a' q
        exact wpAny_pure (kq ys' st' K' h' tk ((g₁.lessP (guard_no gp)).trans g') R' a' q)
    · exact wpAny_bind (wpAny_standAt (wpAny_bind (wpAny_of_eq (hf env x) (wpAny_bind (wpAny_holding h₁)))))
end
end Mine
end

section
open PySem PySem.W PyProof.Rows PySem.Calls
set_option Elab.async false
set_option maxRecDepth 100000
set_option linter.unusedVariables false
namespace Mine
theorem Rl.addH {w : World} {P K : KM} {env : Env} {ow : Bool} {st : St} {h : Heap} (R : Rl w P K env ow st h) {D : Addr} {ob : Obj} {a : AO} (i : Idle P K env ow st D) (e : h.get? D = some ob) (r : ORep w K a ob) : Rl w P K env ow { st with H := hput st.H D a } h := by
  refine ⟨⟨R.rh.prot, R.rh.froz, fun b x q => ?_⟩, fun b x q => ?_, R.ns, R.loc, R.cel, R.own, R.pro⟩
  · by_cases n : b = D
    · subst n; simp only [hput_self] at q; cases q; exact ⟨⟨ob, e, r⟩, i.p, i.k⟩
    · simp only [hput_ne n] at q; exact R.rh.objs b x q
  · by_cases n : b = D
    · subst n; exact ⟨i.l, fun _ => i.c⟩
    · simp only [hput_ne n] at q; exact R.off b x q
def compEnd (mu : Bool) (Q : V → St → Prop) (ys : List V) (st : St) : Prop := match mu with
  | true => ∀ D, st.H D = none → Q (.raw (.ref D)) { st with H := hput st.H D (.list ys) }
  | false => Q (.lst ys) st
theorem compEnd_sound {w : World} {P K : KM} {env : Env} {ow : Bool} {st : St} {h : Heap} {mu : Bool} {Q : V → St → Prop} {ys : List V} (R : Rl w P K env ow st h) {D : Addr} (i : Idle P K env ow st D)
    (e : ∃ ws n, h.get? D = some { cls := .type "list", data := .seq ws n } ∧ Reps w K ys ws.toList) (q : compEnd mu Q ys st) : ∃ u st' K', KGe P K K' ∧ Rl w P K' env ow st' h ∧ Rep w K' u (.ref D) ∧ Q u st' ∧ (∀ L, D ≠ L → Idle P K env ow st L → Idle P K' env ow st' L) := by
  obtain ⟨ws, n, e, r⟩ := e
  cases mu with
  | true => exact ⟨_, _, K, KGe.refl P K, R.addH i e (a := .list ys) ⟨ws, n, rfl, r⟩, .raw _, q D i.h, fun L ne j => ⟨j.p, j.k, by show hput st.H D _ L = none; rw [hput_ne (Ne.symm ne)]; exact j.h, j.l, j.c⟩⟩
  | false =>
    have le : KLe K (K.put D { cls := .type "list", data := .seq ws n }) := KM.le_put i.k
    obtain ⟨R', g⟩ := R.moreK (K' := K.put D { cls := .type "list", data := .seq ws n }) le (fun a o q => by
      by_cases m : a = D
      · subst m; exact .inr i
      · rw [KM.put_ne m] at q; exact .inl q) (fun a o q => by
      by_cases m : a = D
      · subst m; rw [KM.put_self] at q; cases q; exact e
      · rw [KM.put_ne m] at q; exact R.rh.froz a o q)
    exact ⟨_, st, _, g, R', .lst (ws := ws.toList) (n := n) KM.put_self rfl (by simp) (r.mono le), q, fun L ne j => ⟨j.p, by rw [KM.put_ne (Ne.symm ne)]; exact j.k, j.h, j.l, j.c⟩⟩

/- the closure of a comprehension -/
def clos (env : Env) : List (Str × NameKind) → List (Str × Addr) → List (Str × Addr)
  | [], cs => cs
  | (n, k) :: r, cs => if k == .free then clos env r ((n, (env.cells.lookup n).getD 0) :: cs) else clos env r cs
theorem closureFor_clos {scope : Scope} {env : Env} (h : ∀ p ∈ scope.names, p.2 = .free → (env.cells.lookup p.1).isSome = true) : closureFor scope env = pure (clos env scope.names []) := by
  have go : ∀ (names : List (Str × NameKind)) (cs : List (Str × Addr)), (∀ p ∈ names, p.2 = .free → (env.cells.lookup p.1).isSome = true) →
      (forIn names cs (fun x cs => if x.2 == .free then (do let a ← cellOf env x.1; pure (ForInStep.yield ((x.1, a) :: cs))) else pure (ForInStep.yield cs)) : Sem (List (Str × Addr))) = pure (clos env names cs) := by
    intro names
    induction names with
    | nil => intro cs _; rfl
    | cons p r ih =>
      intro cs hp
      obtain ⟨n, k⟩ := p
      rw [List.forIn_cons]
      unfold clos
      by_cases hk : (k == NameKind.free) = true
      · obtain ⟨a, ea⟩ := Option.isSome_iff_exists.mp (hp (n, k) (.head _) (eq_of_beq hk))
        simp only [hk, if_true]
        have : cellOf env n = pure a := by unfold cellOf; rw [show env.cells.lookup n = some a from ea]
        rw [this, show (env.cells.lookup n).getD 0 = a by rw [show env.cells.lookup n = some a from ea]; rfl]
        exact ih _ fun p hm => hp p (.tail _ hm)
      · simp only [hk]
        exact ih _ fun p hm => hp p (.tail _ hm)
  have := go scope.names [] h
  unfold closureFor
  first
    | exact (congrArg (fun t => t >>= pure) this)
    | (show (forIn scope.names [] _ >>= fun r => pure r) = _; rw [bind_pure]; exact this)
theorem clos_mem {env : Env} : ∀ (names : List (Str × NameKind)) (cs : List (Str × Addr)) (n : Str) (c : Addr), (n, c) ∈ clos env names cs → (n, c) ∈ cs ∨ ((n, NameKind.free) ∈ names ∧ c = (env.cells.lookup n).getD 0)
  | [], cs, n, c, h => .inl h
  | (n', k) :: r, cs, n, c, h => by
    unfold clos at h
    split at h
    · rename_i hk
      rcases clos_mem r _ n c h with q | ⟨q1, q2⟩
      · rcases List.mem_cons.mp q with q | q
        · cases q; exact .inr ⟨by rw [eq_of_beq hk]; exact .head _, rfl⟩
        · exact .inl q
      · exact .inr ⟨.tail _ q1, q2⟩
    · rcases clos_mem r _ n c h with q | ⟨q1, q2⟩
      · exact .inl q
      · exact .inr ⟨.tail _ q1, q2⟩
theorem clos_has {env : Env} : ∀ (names : List (Str × NameKind)) (cs : List (Str × Addr)) (n : Str), (n, NameKind.free) ∈ names ∨ (∃ c, (n, c) ∈ cs) → ∃ c, (n, c) ∈ clos env names cs
  | [], cs, n, h => h.elim (fun q => by cases q) id
  | (n', k) :: r, cs, n, h => by
    unfold clos
    split
    · refine clos_has r _ n ?_
      rcases h with q | ⟨c, q⟩
      · rcases List.mem_cons.mp q with q | q
        · cases q; exact .inr ⟨_, .head _⟩
        · exact .inl q
      · exact .inr ⟨c, .tail _ q⟩
    · rename_i hk
      refine clos_has r _ n ?_
      rcases h with q | ⟨c, q⟩
      · rcases List.mem_cons.mp q with q | q
        · cases q; exact absurd rfl hk
        · exact .inl q
      · exact .inr ⟨c, q⟩
theorem mem_lookup_some {l : List (Str × Addr)} {x : Str} {c : Addr} (m : (x, c) ∈ l) : ∃ c', l.lookup x = some c' := by
  induction l with
  | nil => cases m
  | cons p r ih =>
    obtain ⟨y, d⟩ := p
    rw [List.lookup_cons]
    cases q : x == y with
    | true => exact ⟨d, rfl⟩
    | false =>
      rcases List.mem_cons.mp m with e | m
      · cases e; simp at q
      · exact ih m

def compSc (scope sc : Scope) : Scope := { scope with names := scope.names.map fun (n, k) => if (k == .free && sc.kind == .function && sc.names.lookup n == some .cell) then (n, .cell) else (n, k) }
theorem relabel_eq {scope : Scope} {env : Env} : relabel scope env = compSc scope env.scope := rfl
def compOk (scope sc : Scope) : Bool := scope.kind == .function && scope.names.all fun p => p.2 != .cell && (p.2 != .free || sc.names.lookup p.1 == some .cell) && (p.2 != .local || scope.names.lookup p.1 == some .local)
def compF (scope : Scope) (f : Fm) : Fm := ⟨compSc scope f.sc, false, f.d⟩
def capM (scope : Scope) (f : Fm) (m : Str → Option V) : Str → Option V := fun x => if (compSc scope f.sc).names.lookup x = some .cell then m x else none

theorem relabel_lookup {scope sc : Scope} {x : Str} (hc : ∀ p ∈ scope.names, p.2 ≠ .cell) (e : (compSc scope sc).names.lookup x = some .cell) : (x, NameKind.free) ∈ scope.names ∧ sc.names.lookup x = some .cell := by
  have go : ∀ (l : List (Str × NameKind)), (∀ p ∈ l, p.2 ≠ .cell) → (l.map fun (n, k) => if (k == NameKind.free && sc.kind == .function && sc.names.lookup n == some .cell) then (n, NameKind.cell) else (n, k)).lookup x = some .cell → (x, NameKind.free) ∈ l ∧ sc.names.lookup x = some .cell := by
    intro l
    induction l with
    | nil => intro _ h; cases h
    | cons p r ih =>
      obtain ⟨n, k⟩ := p
      intro hc h
      simp only [List.map_cons] at h
      by_cases q : (k == NameKind.free && sc.kind == .function && sc.names.lookup n == some .cell) = true
      · rw [if_pos q, List.lookup_cons] at h
        simp only [Bool.and_eq_true, beq_iff_eq] at q
        cases hx : x == n with
        | true => have hx := eq_of_beq hx; subst hx; exact ⟨by rw [q.1.1]; exact .head _, q.2⟩
        | false => rw [hx] at h; obtain ⟨a, b⟩ := ih (fun p m => hc p (.tail _ m)) h; exact ⟨.tail _ a, b⟩
      · rw [if_neg q, List.lookup_cons] at h
        cases hx : x == n with
        | true => rw [hx] at h; cases h; exact absurd rfl (hc _ (.head _))
        | false => rw [hx] at h; obtain ⟨a, b⟩ := ih (fun p m => hc p (.tail _ m)) h; exact ⟨.tail _ a, b⟩
  exact go scope.names hc e
end Mine
end

section
open PySem PySem.W PyProof.Rows PySem.Calls
set_option Elab.async false
set_option maxRecDepth 100000
set_option linter.unusedVariables false
namespace Mine
section
variable {C : Cx} {f : Fm} {st : St}
inductive CoQ (C : Cx) (f : Fm) (elt : Expr) (g : Comprehension) (gs : List Comprehension) (scope : Scope) (Q : List V → St → Prop) (xs : List V) (nm : Bool) (st₁ : St) : Prop
  | mk (tg : tgOk g.target nm) (Inv : Nat → List V → St → Prop) (i0 : Inv 0 [] ⟨capM scope f st₁.m, st₁.H⟩)
    (turn : ∀ i u ys' st₂, xs[i]? = some u → Inv i ys' st₂ → aas C (compF scope f) g.target u (acL C (compF scope f) elt gs (Inv (i + 1)) ys') st₂)
    (done : ∀ ys' st₂, Inv xs.length ys' st₂ → Q ys' { st₁ with H := st₂.H })
/-- what a comprehension wants: its first iterator from the frame, then its turns in a frame of its own -/
def compPre (C : Cx) (f : Fm) (elt : Expr) (g : Comprehension) (gs : List Comprehension) (scope : Scope) (Q : List V → St → Prop) (st : St) : Prop :=
  awI C f g.iter (CoQ C f elt g gs scope Q) st

theorem comp_sound {elt : Expr} {g : Comprehension} {gs : List Comprehension} {scope : Scope} {pos cpos : Pos} {use : Option (Value → Sem Unit)} {P K : KM} {env : Env} {A : Around} {s : Shared} {Qc : Value → Shared → Prop} {E : Value → Shared → Prop} {Q : List V → St → Prop}
    (hA : Okd A f.d) (hE : EnvOk f env) (hX : Ext C.hb P) (R : Rl C.w P K env f.ow st s.heap) (how : f.ow = true) (hok : compOk scope f.sc = true) (hall : ∀ g' ∈ g :: gs, g'.is_async = 0) (hi : g.ifs = []) (hs : ∀ env x, foldedSetIterable g.iter env x = pure x)
    (h : compPre C f elt g gs scope Q st)
    (k : ∀ ys st' K' h' tk D L m, KGe P K K' → Rl C.w P K' env f.ow st' h' → Idle P K' env f.ow st' D → (∃ ws n, h'.get? D = some { cls := .type "list", data := .seq ws n } ∧ Reps C.w K' ys ws.toList) → Idle P K' env f.ow st' L → D ≠ L → h'.Ns L m → Q ys st' →
      compPost (MM C.w) A E use Qc (.ref D) L (.ok .next) { s with heap := h', toks := tk }) :
    wpAny (MM C.w) A (comprehension (.ListComp elt (g :: gs) scope pos) scope env cpos (newList []) false (eval g.iter env) use) Qc E s := by
  unfold compOk at hok
  simp only [Bool.and_eq_true, beq_iff_eq, List.all_eq_true, bne_iff_ne, ne_eq, Bool.or_eq_true] at hok
  obtain ⟨hkind, hok⟩ := hok
  have nc : ∀ p ∈ scope.names, p.2 ≠ .cell := fun p m => (hok p m).1.1
  have nfree : ∀ p ∈ scope.names, p.2 = .free → f.sc.names.lookup p.1 = some .cell := fun p m e => ((hok p m).1.2).resolve_left (fun q => q e)
  have nloc : ∀ p ∈ scope.names, p.2 = .local → scope.names.lookup p.1 = some .local := fun p m e => ((hok p m).2).resolve_left (fun q => q e)
  have O := R.own how
  have hcl : ∀ p ∈ scope.names, p.2 = .free → (env.cells.lookup p.1).isSome = true := fun p m e => O.has p.1 (by rw [hE.kindOf]; exact nfree p m e)
  refine wpAny_comprehension_free (g := g) (gs := gs) rfl (hs env) (closureFor_clos hcl) hkind (fun x hx e => nloc x hx e) ?_
  refine h P K env A s _ E hA hE hX R ?_
  rintro xs nm st₁ K₁ h₁ tk₁ I wr S So g₁ R₁ W s0 idl ⟨htg, Inv, i0, turn, done⟩
  refine wpAny_newList (items := []) ?_ (by decide)
  refine wpAny_newFunctionEnv nc (fun x hx => by cases hx) (fun h₃ hns hsb => ?_) hkind
  -- the places
  have hD : h₁.get? h₁.objs.size = none := get_size h₁
  have sz2 : (h₁.push { cls := .type "list", data := .seq ([] : List Value).toArray }).objs.size = h₁.objs.size + 1 := Heap.size_push ..
  have sz2' : ({ s with heap := h₁, toks := tk₁ } : Shared).heap.objs.size = h₁.objs.size := rfl
  have k3 : ∀ b o, h₁.get? b = some o → h₃.get? b = some o := fun b o e => by
    have lt := Heap.lt_size e
    exact (hsb.2 b (by show b ≠ (h₁.push _).objs.size; rw [sz2]; exact Nat.ne_of_lt (Nat.lt_succ_of_lt lt))).trans (Heap.get?_push_of_some _ (Heap.get?_push_of_some _ e))
  have eD3 : h₃.get? h₁.objs.size = some { cls := .type "list", data := .seq ([] : List Value).toArray } := by
    refine (hsb.2 _ (by show h₁.objs.size ≠ (h₁.push _).objs.size; rw [sz2]; exact Nat.ne_of_lt (Nat.lt_succ_self _))).trans (Heap.get?_push_of_some _ (Heap.get?_push_size _ rfl))
  have hL : h₁.get? (h₁.objs.size + 1) = none := by
    cases q : h₁.get? (h₁.objs.size + 1) with
    | none => rfl
    | some o => exact absurd (Heap.lt_size q) (Nat.not_lt.mpr (Nat.le_succ _))
  have iD := R₁.idle hD
  have iL := R₁.idle hL
  let Pc : KM := fun a => if a ∈ wr then none else shut st₁.H h₁ a
  have Pc_out : ∀ a, a ∉ wr → Pc a = shut st₁.H h₁ a := fun a n => if_neg n
  have Pc_le : ∀ a o, Pc a = some o → h₁.get? a = some o := fun a o e => by
    by_cases m : a ∈ wr
    · rw [show Pc a = none from if_pos m] at e; cases e
    · rw [Pc_out a m] at e
      cases q : st₁.H a with
      | none => rwa [shut_of q] at e
      | some x => rw [shut_none q] at e; cases e
  have Pc_of : ∀ a o, a ∉ wr → st₁.H a = none → h₁.get? a = some o → Pc a = some o := fun a o n q e => by rw [Pc_out a n, shut_of q]; exact e
  have hP : ∀ a o, P a = some o → Pc a = some o := fun a o e => Pc_of a o (fun m => by rw [(idl a m).p] at e; cases e) (by
    cases q : st₁.H a with
    | none => rfl
    | some x => rw [((R₁.rh.objs a x q).2).1] at e; cases e) (R₁.rh.prot a o e)
  have hPL : ∀ o, h₁.get? env.locals = some o → Pc env.locals = some o := fun o e => Pc_of _ o (fun m => (idl _ m).l rfl) (by
    cases q : st₁.H env.locals with
    | none => rfl
    | some x => exact absurd rfl (R₁.off _ x q).1) e
  have hPC : f.ow = true → ∀ c ∈ env.cells.map (·.2), ∀ o, h₁.get? c = some o → Pc c = some o := fun q c hc o e => Pc_of _ o (fun m => (idl _ m).c hc) (by
    cases q' : st₁.H c with
    | none => rfl
    | some x => exact absurd hc ((R₁.off _ x q').2 q)) e
  have PcD : Pc h₁.objs.size = none := by
    cases q : Pc h₁.objs.size with
    | none => rfl
    | some o => rw [Pc_le _ _ q] at hD; cases hD
  have PcL : Pc (h₁.objs.size + 1) = none := by
    cases q : Pc (h₁.objs.size + 1) with
    | none => rfl
    | some o => rw [Pc_le _ _ q] at hL; cases hL
  -- the comprehension's own frame
  show codeAny (MM C.w) A (.compStart (.ListComp elt (g :: gs) scope pos) 0 (.ref I) (.ref h₁.objs.size) (compEnvC scope (clos env scope.names []) (h₁.push { cls := .type "list", data := .seq ([] : List Value).toArray }).objs.size env))
    (compPost (MM C.w) A E use Qc (.ref h₁.objs.size) (h₁.push { cls := .type "list", data := .seq ([] : List Value).toArray }).objs.size) { s with heap := h₃, toks := tk₁ }
  rw [sz2]
  generalize hcenv : compEnvC scope (clos env scope.names []) (h₁.objs.size + 1) env = cenv
  have eL : cenv.locals = h₁.objs.size + 1 := by rw [← hcenv]; rfl
  have eS : cenv.scope = compSc scope f.sc := by rw [← hcenv, ← hE.sc]; rfl
  have eC : cenv.cells = clos env scope.names [] := by rw [← hcenv]; rfl
  have hEc : EnvOk (compF scope f) cenv := ⟨eS, by rw [← hcenv]; exact hE.gl, by rw [← hcenv]; exact hE.bu, hkind⟩
  have closC : ∀ c ∈ cenv.cells.map (·.2), ∃ n, env.cells.lookup n = some c ∧ (n, c) ∈ cenv.cells := fun c hc => by
    rw [eC] at hc ⊢
    obtain ⟨n, m⟩ := cell_mem hc
    rcases clos_mem _ _ n c m with q | ⟨q1, q2⟩
    · cases q
    · obtain ⟨c', e⟩ := Option.isSome_iff_exists.mp (hcl _ q1 rfl)
      exact ⟨n, by rw [e, q2]; simp [show env.cells.lookup n = some c' from e], m⟩
  have R3 : Rl C.w Pc K₁ cenv false ⟨capM scope f st₁.m, st₁.H⟩ h₃ := by
    refine ⟨⟨fun a o e => k3 a o (Pc_le a o e), fun a o e => k3 a o (R₁.rh.froz a o e), fun a o e => ?_⟩, fun a o e => ⟨?_, fun q => by cases q⟩, ⟨_, (by rw [eL, ← sz2]; exact hns), fun x u e kd => ?_⟩, ⟨by rw [eL]; exact PcL, by rw [eL]; exact iL.k⟩, fun x u e kd => ?_, fun q => (by cases q), fun _ c hc => ?_⟩
    · obtain ⟨⟨ob, e1, r1⟩, e2, e3⟩ := R₁.rh.objs a o e
      refine ⟨⟨ob, k3 _ _ e1, r1⟩, ?_, e3⟩
      show Pc a = none
      by_cases m : a ∈ wr
      · exact if_pos m
      · rw [Pc_out a m]; exact shut_none e
    · rintro rfl
      have h := iL.h
      rw [← eL] at h
      exact absurd ((show st₁.H cenv.locals = some o from e).symm.trans h) (by simp)
    · have e : capM scope f st₁.m x = some u := e
      unfold capM at e
      split at e
      · rename_i q; rw [hEc.kindOf] at kd; exact absurd (kd.symm.trans q) (by simp)
      · cases e
    · have e : capM scope f st₁.m x = some u := e
      unfold capM at e
      split at e
      · rename_i q
        obtain ⟨q1, q2⟩ := relabel_lookup nc q
        obtain ⟨c, v, e1, ⟨o, e2, e3⟩, r⟩ := R₁.cel x u e (by rw [hE.kindOf]; exact q2)
        obtain ⟨c', m⟩ := clos_has (env := env) scope.names [] x (.inl q1)
        obtain ⟨c'', e4⟩ := mem_lookup_some m
        have hm := lookup_mem e4
        rcases clos_mem _ _ x c'' hm with z | ⟨_, z⟩
        · cases z
        · rw [e1] at z
          refine ⟨c, v, by rw [eC, e4, z]; rfl, ⟨o, k3 _ _ e2, e3⟩, r⟩
      · cases e
    · obtain ⟨n, e, _⟩ := closC c hc
      have hm := mem_cells e
      obtain ⟨_, _, v, o, e1, _⟩ := (R₁.own how).cel c hm
      exact ⟨o, hPC how c hm o e1⟩
  have notMat : ∀ {K' : KM} {st' : St} {a : Addr}, Idle P K' env f.ow st' a → ¬ Mat P K' env f.ow st' a := fun i hm => by
    rcases hm with q | q | q | q | ⟨_, q⟩
    · exact q i.p
    · exact q i.k
    · exact q i.h
    · exact i.l q
    · exact i.c q
  have cellLt : ∀ c ∈ cenv.cells.map (·.2), c < h₁.objs.size := fun c hc => by
    obtain ⟨n, e, _⟩ := closC c hc
    obtain ⟨_, _, v, o, e1, _⟩ := (R₁.own how).cel c (mem_cells e)
    exact Heap.lt_size e1
  have idlc : ∀ b ∈ wr, Idle Pc K₁ cenv false ⟨capM scope f st₁.m, st₁.H⟩ b := fun b hb => ⟨if_pos hb, (idl b hb).k, (idl b hb).h, by
      rw [eL]; intro e; obtain ⟨o, e'⟩ := W.live 0 h₁ s0 b hb; exact absurd (Heap.lt_size e') (by rw [e]; exact Nat.not_lt.mpr (Nat.le_succ _)), fun hm => by
      obtain ⟨n, e, _⟩ := closC b hm
      exact (idl b hb).c (mem_cells e)⟩
  have aD : AccIs C.w Pc K₁ cenv false ⟨capM scope f st₁.m, st₁.H⟩ h₃ h₁.objs.size [] := ⟨⟨PcD, iD.k, iD.h, by rw [eL]; exact Nat.ne_of_lt (Nat.lt_succ_self _), fun hm => Nat.lt_irrefl _ (cellLt _ hm)⟩, #[], 0, eD3, .nil⟩
  have hDw : h₁.objs.size ∉ wr := fun m => by obtain ⟨o, e⟩ := W.live 0 h₁ s0 _ m; exact Nat.lt_irrefl _ (Heap.lt_size e)
  have s3 : S 0 h₃ := W.stay 0 h₁ h₃ s0 fun b o _ e => k3 b o e
  refine wp_compStart (g := g) rfl (hall g (.head _)) (fun Q' E' hq => W.self 0 _ Q' E' s3 hq) ?_
  refine loop_sound (C := C) (f := compF scope f) (gens := g :: gs) (k := 0) (gs := gs) rfl hi (hall g (.head _)) (fun g' e => hall g' (List.mem_of_getElem? e)) (fun Q ys st h => inner_sound hall gs 1 rfl Q ys st h) hA hEc (fun a o e => hP a o (hX a o e)) R3 aD W s3 idlc hDw htg i0 turn (Q := fun ys st' => Q ys { st₁ with H := st'.H }) done ?_
  intro ys' st' K' h' tk g' R' a' q
  obtain ⟨Rb, gb⟩ := R₁.back' hP hPL hPC g' R'.rh
  obtain ⟨mm, hnn, _⟩ := R'.ns
  have i1 : Idle P K' env f.ow { st₁ with H := st'.H } h₁.objs.size := ⟨iD.p, a'.idle.k, a'.idle.h, iD.l, iD.c⟩
  have i2 : Idle P K' env f.ow { st₁ with H := st'.H } (h₁.objs.size + 1) := ⟨iL.p, by have := R'.loc.2; rwa [eL] at this, by
      cases z : st'.H (h₁.objs.size + 1) with
      | none => rfl
      | some o => exact absurd eL.symm (R'.off _ o z).1, iL.l, iL.c⟩
  have := k ys' _ K' h' tk h₁.objs.size (h₁.objs.size + 1) mm (g₁.trans gb) Rb i1 a'.obj i2 (Nat.ne_of_lt (Nat.lt_succ_self _)) (by rw [← eL]; exact hnn) q
  exact this

theorem eval_ListComp {elt : Expr} {g : Comprehension} {gs : List Comprehension} {scope : Scope} {pos : Pos} {env : Env} (ha : g.is_async = 0) :
    eval (.ListComp elt (g :: gs) scope pos) env = comprehension (.ListComp elt (g :: gs) scope pos) scope env (firstIterPos (g :: gs) pos) (newList []) false (eval g.iter env) := by
  obtain ⟨a, b, c, d⟩ := g
  simp only at ha
  subst ha
  rfl
/-- a comprehension's list: mu, may it change afterwards? -/
theorem aw_comp {elt : Expr} {g : Comprehension} {gs : List Comprehension} {scope : Scope} {pos : Pos} {Q : V → St → Prop} (mu : Bool) (h : compPre C f elt g gs scope (compEnd mu Q) st) (hok : compOk scope f.sc = true) (hall : ∀ g' ∈ g :: gs, g'.is_async = 0) (how : f.ow = true := by rfl) (hi : g.ifs = [] := by rfl)
    (hs : ∀ env x, foldedSetIterable g.iter env x = pure x := by intro _ _; rfl) : aw C f (.ListComp elt (g :: gs) scope pos) Q st := by
  intro P K env A s Qc E hA hE hX R k
  rw [eval_ListComp (hall g (.head _))]
  refine comp_sound hA hE hX R how hok hall hi hs h ?_
  intro ys st' K' h' tk D L m g' R' iD e iL ne hn q
  refine ⟨m, hn, fun h'' hsb => ?_⟩
  have kp : ∀ a o, a ≠ L → h'.get? a = some o → h''.get? a = some o := fun a o n e => (hsb.2 a n).trans e
  have R'' : Rl C.w P K' env f.ow st' h'' := R'.keep fun a o hm e => kp a o (fun q => by
    subst q
    rcases hm with q | q | q | q | ⟨_, q⟩
    · exact q iL.p
    · exact q iL.k
    · exact q iL.h
    · exact iL.l q
    · exact iL.c q) e
  obtain ⟨ws, n, e1, e2⟩ := e
  obtain ⟨u, st₂, K₂, g₂, R₂, r, q, -⟩ := compEnd_sound R'' iD ⟨ws, n, kp _ _ ne e1, e2⟩ q
  exact k u _ st₂ K₂ h'' tk (g'.trans g₂) R₂ r q

theorem exec_Assign_comp {elt : Expr} {g : Comprehension} {gs : List Comprehension} {scope : Scope} {pos : Pos} {env : Env} {x : Str} {px p : Pos} (ha : g.is_async = 0) (hsw : swapsWith (.ListComp elt (g :: gs) scope pos) (some (.Name x px)) p.line env = pure true) :
    exec (.Assign [.Name x px] (.ListComp elt (g :: gs) scope pos) p) env = (standAt p >>= fun _ => (comprehension (.ListComp elt (g :: gs) scope pos) scope env (firstIterPos (g :: gs) pos) (newList []) false (eval g.iter env) (some (assign (.Name x px) env)) >>= fun _ => pure ()) >>= fun _ => pure .next) := by
  obtain ⟨a, b, c, d⟩ := g
  simp only at ha
  subst ha
  rw [exec_Assign_Name_used _ _ _ _ hsw]
  rfl
/-- x = [..]: the stores are exchanged -/
theorem ax1_comp {elt : Expr} {g : Comprehension} {gs : List Comprehension} {scope : Scope} {pos : Pos} {x : Str} {px p : Pos} {Q : Fl → St → Prop} (mu : Bool) (h : compPre C f elt g gs scope (compEnd mu (asQ C f (.Name x px) Q)) st)
    (hok : compOk scope f.sc = true) (hall : ∀ g' ∈ g :: gs, g'.is_async = 0) (hsw : ∀ env : Env, env.scope = f.sc → swapsWith (.ListComp elt (g :: gs) scope pos) (some (.Name x px)) p.line env = pure true) (how : f.ow = true := by rfl) (hi : g.ifs = [] := by rfl)
    (hs : ∀ env x, foldedSetIterable g.iter env x = pure x := by intro _ _; rfl) : ax1 C f (.Assign [.Name x px] (.ListComp elt (g :: gs) scope pos) p) Q st := by
  intro P K env A s Qc E hA hE hX R k
  rw [exec_Assign_comp (hall g (.head _)) (hsw env hE.sc)]
  refine wpAny_bind (wpAny_standAt (wpAny_bind ?_))
  refine wpAny_bind (comp_sound (Qc := fun _ s' => wpAny (MM C.w) A (pure ()) (fun a s' => wpAny (MM C.w) A (pure Flow.next) Qc E s') E s') hA hE hX R how hok hall hi hs h ?_)
  intro ys st' K' h' tk D L m g' R' iD e iL ne hn q
  obtain ⟨u, st₂, K₂, g₂, R₂, r, q, idl⟩ := compEnd_sound R' iD e q
  have iL₂ : Idle P K₂ env f.ow st₂ L := idl L ne iL
  have gp : ∀ b ∈ [L], P b = none := fun b hb => by simp at hb; subst hb; exact iL.p
  have idG : ∀ b ∈ [L], Idle P K₂ env f.ow st₂ b := fun b hb => by simp at hb; subst hb; exact iL₂
  show wpAny _ _ (assign (.Name x px) env (.ref D)) _ _ _
  refine q (guardP P [L] h') K₂ env A _ (.ref D) _ E hA hE (fun b o e => guard_le gp b o (hX b o e)) (R₂.guard idG) r ?_
  intro st₃ K₃ h₃ tk₃ g₃ R₃ q
  obtain ⟨oL, es, ep, eL, rL⟩ := hn
  have i3 := R₃.idleOf g₃ (.head _) iL.p iL₂.k ⟨_, eL⟩ iL.c
  have R₃' : Rl C.w P K₃ env f.ow st₃ h₃ := R₃.weakP (guard_le gp) R.pro
  refine ⟨m, ⟨oL, es, ep, R₃.rh.prot _ _ (by rw [guardP_in (.head _)]; exact eL), rL⟩, fun h'' hsb => ?_⟩
  have R'' : Rl C.w P K₃ env f.ow st₃ h'' := R₃'.keep fun a o hm e => (hsb.2 a (fun q => by
    subst q
    rcases hm with q | q | q | q | ⟨_, q⟩
    · exact q i3.p
    · exact q i3.k
    · exact q i3.h
    · exact i3.l q
    · exact i3.c q)).trans e
  exact wpAny_pure (wpAny_pure (k _ _ st₃ K₃ h'' tk₃ ((g'.trans g₂).trans (g₃.lessP (guard_no gp))) R'' .next q))
end
end Mine
end

section
open PySem PySem.W PyProof.Rows PySem.Calls
set_option Elab.async false
set_option maxRecDepth 100000
set_option linter.unusedVariables false
namespace Mine
section
variable {C : Cx} {f : Fm} {st : St} {H : Addr → Option AO} {κ : Type} [DecidableEq κ]

/-- a kind of keys, with the values that stand for them -/
structure KK (w : World) (κ : Type) [DecidableEq κ] where
  knd : HeapKind Challenge.pw_pq1073_01 w κ
  kv : κ → V
  is : ∀ {h : Heap} {k : κ} {a : Addr}, Rep w h.get? (kv k) (.ref a) → knd.is h k a
  room : ∀ {A : Around}, A.units + 90 < cLine → knd.room A
  ref : ∀ {K : KM} {k : κ} {v : Value}, Rep w K (kv k) v → ∃ a, v = .ref a
def kkI (w : World) : KK w (List Int) where
  knd := tupleKind (iKind w)
  kv := V.ints
  is := fun r => ints_key r
  room := fun h => by show _ < _; (first | lia | omega)
  ref := fun r => by (first | cases r.raw' | obtain ⟨_, rfl⟩ := r.int' | obtain ⟨_, rfl⟩ := r.str' | cases r.bool' | cases r); exact ⟨_, rfl⟩
def kkN (w : World) : KK w Node where
  knd := nodeKind w
  kv := Node.toV
  is := fun r => r
  room := fun h => by show _ + 3 < _; (first | lia | omega)
  ref := fun {K k v} r => by cases k <;> cases r <;> exact ⟨_, rfl⟩

def alook (es : List (κ × V)) (k : κ) : Option V := (es.find? fun x => decide (x.1 = k)).map (·.2)
theorem alook_none {es : List (κ × V)} {k : κ} : alook es k = none ↔ k ∉ es.map (·.1) := by
  unfold alook
  rw [Option.map_eq_none_iff, List.find?_eq_none]
  constructor
  · intro h m; obtain ⟨x, hx, rfl⟩ := List.mem_map.mp m; exact h x hx (by simp)
  · intro h x hx e; exact h (List.mem_map.mpr ⟨x, hx, of_decide_eq_true e⟩)

theorem look_rep {w : World} {K : KM} {k : κ} : ∀ {es : List (κ × V)} {xs : List (κ × Addr × Value)}, xs.map (·.1) = es.map (·.1) → Reps w K (es.map (·.2)) (xs.map (·.2.2)) →
    (alook es k = none → atKey xs k = none) ∧ (∀ u, alook es k = some u → ∃ p, atKey xs k = some p ∧ Rep w K u p.2)
  | [], [], _, _ => ⟨fun _ => rfl, fun u e => by cases e⟩
  | [], _ :: _, e, _ => by cases e
  | _ :: _, [], e, _ => by cases e
  | (k', u') :: es, (k'', a, v) :: xs, e, r => by
    simp only [List.map_cons, List.cons.injEq] at e
    obtain ⟨rfl, e⟩ := e
    simp only [List.map_cons] at r
    obtain ⟨_, _, e0, r, rs⟩ := r.cons'
    cases e0
    obtain ⟨h1, h2⟩ := look_rep (k := k) e rs
    unfold alook atKey at *
    by_cases q : k'' = k
    · subst q
      have e1 : (List.find? (fun x => decide (x.1 = k'')) ((k'', u') :: es)) = some (k'', u') := by simp
      have e2 : (List.find? (fun x => decide (x.1 = k'')) ((k'', a, v) :: xs)) = some (k'', a, v) := by simp
      rw [e1, e2]
      exact ⟨fun e => (by cases e), fun u e => (by cases e; exact ⟨_, rfl, r⟩)⟩
    · simp only [List.find?_cons, q, decide_false]
      exact ⟨h1, h2⟩
/-- the concrete dict behind DictRep -/
theorem DictRep.of {w : World} {K : KM} {h : Heap} {kk : KK w κ} {es : List (κ × V)} {o : Obj} {d : Addr} (x : DictRep w K kk.knd kk.kv es o) (hk : ∀ a o, K a = some o → h.get? a = some o) (ho : h.get? d = some o) :
    ∃ xs : List (κ × Addr × Value), h.DictOfH kk.knd d xs ∧ xs.map (·.1) = es.map (·.1) ∧ Reps w K (es.map fun e => kk.kv e.1) (xs.map fun x => .ref x.2.1) ∧ Reps w K (es.map (·.2)) (xs.map (·.2.2)) := by
  obtain ⟨hc, ees, ep, xs, hd, he, hn, hx, r1, r2⟩ := x
  refine ⟨xs, ⟨o, ees, ep, ho, hc, hd, he, fun x hm => ?_, hn⟩, hx, r1, r2⟩
  obtain ⟨i, hi, rfl⟩ := List.mem_iff_getElem.mp hm
  have hlen : es.length = xs.length := by have := congrArg List.length hx; simpa using this.symm
  have e : (es.map fun e => kk.kv e.1)[i]? = some (kk.kv xs[i].1) := by
    have : (xs.map (·.1))[i]? = (es.map (·.1))[i]? := by rw [hx]
    simp only [List.getElem?_map, List.getElem?_eq_getElem hi, Option.map_some] at this ⊢
    cases q : es[i]? with
    | none => rw [q] at this; cases this
    | some e => rw [q] at this; simp only [Option.map_some, Option.some.injEq] at this ⊢; rw [this]
  obtain ⟨v, ev, rv⟩ := r1.get e
  simp only [List.getElem?_map, List.getElem?_eq_getElem hi, Option.map_some, Option.some.injEq] at ev
  subst ev
  exact kk.is (rv.mono fun a o e => hk a o e)

theorem cmp_notIn (kk : KK C.w κ) {d : Addr} {es : List (κ × V)} {k : κ} (hd : d ≠ sysModules) (hH : ∀ K o, (∃ ao, H d = some ao ∧ ORep C.w K ao o) → DictRep C.w K kk.knd kk.kv es o) (hs : (H d).isSome = true) : CmpOk C .NotIn (kk.kv k) (.raw (.ref d)) H (!(alook es k).isSome) := by
  intro P K A s va vb Qc E hA hst R ra rb q
  obtain ⟨a, rfl⟩ := kk.ref ra
  (first | cases rb.raw' | obtain ⟨_, rfl⟩ := rb.int' | obtain ⟨_, rfl⟩ := rb.str' | cases rb.bool' | cases rb)
  obtain ⟨ao, e⟩ := Option.isSome_iff_exists.mp hs
  obtain ⟨⟨ob, ho, ro⟩, _⟩ := R.objs _ _ e
  obtain ⟨xs, hm, hx, r1, r2⟩ := (hH K ob ⟨ao, e, ro⟩).of R.froz ho
  obtain ⟨l1, l2⟩ := look_rep (k := k) hx r2
  refine wpAny_notIn_heap (knd := kk.knd) (k := k) (kk.room (by have := hA.u; show A.units + 1 + 90 < _; (first | lia | omega))) (kk.is (ra.mono fun a o e => R.froz a o e)) (beq_eq_false_iff_ne.mpr hd) hm ?_
  cases z : alook es k with
  | none => rw [l1 z]; rw [z] at q; exact q _
  | some u => obtain ⟨p, e, _⟩ := l2 u z; rw [e]; rw [z] at q; exact q _

theorem sub_dict (kk : KK C.w κ) {d : Addr} {es : List (κ × V)} {k : κ} {u : V} (hH : ∀ K o, (∃ ao, H d = some ao ∧ ORep C.w K ao o) → DictRep C.w K kk.knd kk.kv es o) (hs : (H d).isSome = true) (hu : alook es k = some u) : SubOk C (.raw (.ref d)) (kk.kv k) H u := by
  intro P K A s vo vi Qc E hA hst R ro ri q
  obtain ⟨a, rfl⟩ := kk.ref ri
  (first | cases ro.raw' | obtain ⟨_, rfl⟩ := ro.int' | obtain ⟨_, rfl⟩ := ro.str' | cases ro.bool' | cases ro)
  obtain ⟨ao, e⟩ := Option.isSome_iff_exists.mp hs
  obtain ⟨⟨ob, ho, ro⟩, _⟩ := R.objs _ _ e
  obtain ⟨xs, hm, hx, r1, r2⟩ := (hH K ob ⟨ao, e, ro⟩).of R.froz ho
  obtain ⟨l1, l2⟩ := look_rep (k := k) hx r2
  obtain ⟨p, e, rp⟩ := l2 u hu
  exact ⟨⟨"dict", _, hm.typeIs, slot_dict_getitem.lookup⟩, wpAny_getItem_heap (knd := kk.knd) (k := k) (kk.room (by have := hA.u; show A.units + 1 + 90 < _; (first | lia | omega))) (kk.is (ri.mono fun a o e => R.froz a o e)) hm e (q _ _ rp)⟩

theorem reps_keys {w : World} {K : KM} {kv : κ → V} : ∀ {es : List (κ × V)} {xs : List (κ × Addr × Value)} {k : κ} {u : V} {v : Value}, xs.map (·.1) = es.map (·.1) → Reps w K (es.map fun e => kv e.1) (xs.map fun x => Value.ref x.2.1) → Reps w K (es.map (·.2)) (xs.map (·.2.2)) → Rep w K u v →
    (xs.map (putAt k v)).map (·.1) = (es.map fun e => if e.1 = k then (e.1, u) else e).map (·.1) ∧ Reps w K ((es.map fun e => if e.1 = k then (e.1, u) else e).map fun e => kv e.1) ((xs.map (putAt k v)).map fun x => Value.ref x.2.1) ∧
      Reps w K ((es.map fun e => if e.1 = k then (e.1, u) else e).map (·.2)) ((xs.map (putAt k v)).map (·.2.2))
  | [], [], _, _, _, _, _, _, _ => ⟨rfl, .nil, .nil⟩
  | [], _ :: _, _, _, _, e, _, _, _ => by cases e
  | _ :: _, [], _, _, _, e, _, _, _ => by cases e
  | (k', u') :: es, (k'', a, v') :: xs, k, u, v, e, r1, r2, rv => by
    simp only [List.map_cons, List.cons.injEq] at e
    obtain ⟨rfl, e⟩ := e
    simp only [List.map_cons] at r1 r2
    obtain ⟨_, _, e1, a1, t1⟩ := r1.cons'
    cases e1
    obtain ⟨_, _, e2, a2, t2⟩ := r2.cons'
    cases e2
    obtain ⟨h1, h2, h3⟩ := reps_keys (k := k) e t1 t2 rv
    by_cases q : k'' = k
    · subst q
      simp only [List.map_cons, putAt, if_true]
      refine ⟨?_, .cons a1 h2, .cons rv h3⟩
      rw [List.cons.injEq]; exact ⟨rfl, h1⟩
    · simp only [List.map_cons, putAt, q, if_false]
      refine ⟨?_, .cons a1 h2, .cons a2 h3⟩
      rw [List.cons.injEq]; exact ⟨rfl, h1⟩

def aput (es : List (κ × V)) (k : κ) (u : V) : List (κ × V) := if (alook es k).isSome then es.map (fun e => if e.1 = k then (e.1, u) else e) else es ++ [(k, u)]
theorem set_dict' (kk : KK C.w κ) {d : Addr} {es : List (κ × V)} {k : κ} {u : V} {ao ao' : AO} (hH : ∀ K o, ORep C.w K ao o → DictRep C.w K kk.knd kk.kv es o) (hH' : ∀ K o, DictRep C.w K kk.knd kk.kv (aput es k u) o → ORep C.w K ao' o) (hn : es.length ≤ 2 ^ 24) : SetOk C d (kk.kv k) u ao ao' := by
  intro P K A s vi v ob Qc E hA hk ho hK ro ri rv q
  obtain ⟨a, rfl⟩ := kk.ref ri
  obtain ⟨xs, hm, hx, r1, r2⟩ := (hH K ob ro).of hk ho
  obtain ⟨l1, l2⟩ := look_rep (k := k) hx r2
  refine wpAny_setItem_heap (knd := kk.knd) (k := k) (kk.room (by have := hA.u; show A.units + 1 + 90 < _; (first | lia | omega))) (kk.is (ri.mono fun a o e => hk a o e)) hm (fun h' hm' hs => ?_) (by have := congrArg List.length hx; simp only [List.length_map] at this; rw [this]; exact hn)
  obtain ⟨o', ees, ep, ho', hc, hd, he, his, hnd⟩ := hm'
  refine q h' o' _ hs ho' (hH' K o' ⟨hc, ees, ep, storedH xs k a v, hd, he, hnd, ?_⟩)
  unfold aput
  cases z : alook es k with
  | none =>
    rw [storedH_new (l1 z)]
    simp only [Option.isSome_none, Bool.false_eq_true, if_false, List.map_append, List.map_cons, List.map_nil]
    exact ⟨by rw [hx], r1.append (.cons ri .nil), r2.append (.cons rv .nil)⟩
  | some u' =>
    obtain ⟨p, e, _⟩ := l2 u' z
    rw [storedH_old e]
    simp only [Option.isSome_some, if_true]
    exact reps_keys hx r1 r2 rv
end
section
variable {C : Cx} {f : Fm} {st : St} {H : Addr → Option AO}
theorem notIn_N {d : Addr} {es : List (Node × V)} {k : Node} (hd : d ≠ sysModules) (hH : H d = some (.dictN es)) : CmpOk C .NotIn k.toV (.raw (.ref d)) H (!(alook es k).isSome) :=
  cmp_notIn (kkN C.w) hd (fun K o ⟨ao, e, r⟩ => by rw [hH] at e; cases e; exact r) (by rw [hH]; rfl)
theorem notIn_I {d : Addr} {es : List (List Int × V)} {k : List Int} (hd : d ≠ sysModules) (hH : H d = some (.dictI es)) : CmpOk C .NotIn (.ints k) (.raw (.ref d)) H (!(alook es k).isSome) :=
  cmp_notIn (kkI C.w) hd (fun K o ⟨ao, e, r⟩ => by rw [hH] at e; cases e; exact r) (by rw [hH]; rfl)
theorem sub_N {d : Addr} {es : List (Node × V)} {k : Node} {u : V} (hH : H d = some (.dictN es)) (hu : alook es k = some u) : SubOk C (.raw (.ref d)) k.toV H u :=
  sub_dict (kkN C.w) (fun K o ⟨ao, e, r⟩ => by rw [hH] at e; cases e; exact r) (by rw [hH]; rfl) hu
theorem sub_I {d : Addr} {es : List (List Int × V)} {k : List Int} {u : V} (hH : H d = some (.dictI es)) (hu : alook es k = some u) : SubOk C (.raw (.ref d)) (.ints k) H u :=
  sub_dict (kkI C.w) (fun K o ⟨ao, e, r⟩ => by rw [hH] at e; cases e; exact r) (by rw [hH]; rfl) hu
theorem set_N {d : Addr} {es : List (Node × V)} {k : Node} {u : V} (hn : es.length ≤ 2 ^ 24) : SetOk C d k.toV u (.dictN es) (.dictN (aput es k u)) := set_dict' (kkN C.w) (fun _ _ r => r) (fun _ _ r => r) hn
theorem set_I {d : Addr} {es : List (List Int × V)} {k : List Int} {u : V} (hn : es.length ≤ 2 ^ 24) : SetOk C d (.ints k) u (.dictI es) (.dictI (aput es k u)) := set_dict' (kkI C.w) (fun _ _ r => r) (fun _ _ r => r) hn
/-- counts[key], counts frozen -/
theorem sub_dct {es : List (List Int × V)} {k : List Int} {u : V} (hu : alook es k = some u) : SubOk C (.dct es) (.ints k) H u := by
  intro P K A s vo vi Qc E hA hst R ro ri q
  obtain ⟨a, rfl⟩ := (kkI C.w).ref ri
  cases ro with | dct h1 h hc hd he hn hx hk hv =>
  rename_i d o ees n xs
  obtain ⟨xs, hm, hx, r1, r2⟩ := DictRep.of (kk := kkI C.w) (d := d) ⟨hc, ees, n, xs, hd, he, hn, hx, hk, hv⟩ R.froz (R.froz _ _ h)
  obtain ⟨l1, l2⟩ := look_rep (k := k) hx r2
  obtain ⟨p, e, rp⟩ := l2 u hu
  exact ⟨⟨"dict", _, hm.typeIs, slot_dict_getitem.lookup⟩, wpAny_getItem_heap (knd := (kkI C.w).knd) (k := k) ((kkI C.w).room (by have := hA.u; show A.units + 1 + 90 < _; (first | lia | omega))) ((kkI C.w).is (ri.mono fun a o e => R.froz a o e)) hm e (q _ _ rp)⟩
inductive FrzD (Q : V → St → Prop) (u : V) (st : St) : Prop
  | mk (a : Addr) (l : List (List Int × V)) (e : u = .raw (.ref a)) (ha : a ≠ sysModules) (hH : st.H a = some (.dictI l)) (q : Q (.dct l) { st with H := hdel st.H a })
theorem aw_freezeD {e : Expr} {Q : V → St → Prop} (h : aw C f e (FrzD Q) st) : aw C f e Q st := by
  intro P K env A s Qc E hA hE hX R k
  refine h P K env A s _ E hA hE hX R ?_
  rintro u v st₁ K₁ h₁ tk₁ g₁ R₁ r ⟨a, l, rfl, ha, hH, q⟩
  (first | cases r.raw' | obtain ⟨_, rfl⟩ := r.int' | obtain ⟨_, rfl⟩ := r.str' | cases r.bool' | cases r)
  obtain ⟨⟨ob, ho, hc, ees, ep, xs, hd, he, hn, hx, r1, r2⟩, _⟩ := R₁.rh.objs _ _ hH
  obtain ⟨R₂, g₂⟩ := R₁.freeze hH ho
  exact k _ _ _ _ h₁ tk₁ (g₁.trans g₂) R₂ (.dct ha KM.put_self hc hd he hn hx (r1.mono g₂.le) (r2.mono g₂.le)) q
end
end Mine
end

section
open PySem PySem.W PyProof.Rows PySem.Calls
set_option Elab.async false
set_option maxRecDepth 100000
set_option linter.unusedVariables false
namespace Mine
/-- a dict with the entries es -/
def DAt (h : Heap) (d : Addr) (es : Array DictEntry) (ep : Nat) : Prop := ∃ o, h.get? d = some o ∧ o.cls = .type "dict" ∧ o.data = .dict es ep
section
variable {prog : Program} {w : World} {A : Around} {E : Value → Shared → Prop} {s : Shared}
theorem wp_pyIter_dict {d : Addr} {es : Array DictEntry} {ep : Nat} {Q : Value → Shared → Prop} (hd : (d == sysModules) = false) (hm : DAt s.heap d es ep)
    (hQ : Q (.ref s.heap.objs.size) { s with heap := s.heap.push { cls := .type "dict_keyiterator", data := .fields #[.ref d, .int 0 0, .int es.size 0, .int ep 0] } }) : wpAny (model prog w) A (pyIter (.ref d)) Q E s := by
  obtain ⟨o, ho, hc, hdat⟩ := id hm
  have hT : s.TypeIs (.ref d) "dict" := ⟨o, ho, hc⟩
  refine wpAny_pyIter_slot hT F.slot_dict_iter (wpAny_call_entry F.slot_dict_iter hT F.entry_dict_iter ?_ (F.args_dict_iter_1 _))
  unfold Builtin.«dict.__iter__»
  refine wpAny_bind ?_
  unfold Builtin.Dict.dictSlotNone
  refine wpAny_bind (wpAny_notOrdered_dict hT ?_)
  show wpAny _ _ (pure (Value.ref d)) _ _ s
  refine wpAny_pure ?_
  show wpAny _ _ (Builtin.Dict.showsAll d >>= _) _ _ s
  unfold Builtin.Dict.showsAll
  rw [if_neg (by rw [hd]; exact Bool.false_ne_true)]
  refine wpAny_bind (wpAny_pure ?_)
  refine wpAny_bind (wpAny_dictEntries ho hdat ?_)
  refine wpAny_bind (wpAny_dictEpoch ho hdat ?_)
  refine wpAny_bind (wpAny_newObj_type (wpAny_pure ⟨_, rfl, "dict_keyiterator", _, ⟨_, Heap.get?_push_size _ rfl, rfl⟩, F.slot_dict_keyiterator_next.lookup, ?_⟩))
  simpa [rawInt] using hQ
theorem wp_pyNext_dict_item {it d : Addr} {i ep : Nat} {es : Array DictEntry} {Q : Option Value → Shared → Prop} (hit : s.heap.IsKeyIter it d i es.size ep) (hm : DAt s.heap d es ep) (hlt' : i < es.size)
    (hQ : ∀ h', h'.IsKeyIter it d (i + 1) es.size ep → Heap.SameBut it s.heap h' → Q (some es[i].key) { s with heap := h' }) : wpAny (model prog w) A (pyNext (.ref it)) Q E s := by
  obtain ⟨o, ho, hc, hd⟩ := id hit
  obtain ⟨od, hod, hcd, hdd⟩ := id hm
  unfold pyNext
  refine wpAny_bind (wpAny_attempt (wpAny_callSpecial?_slot (name := Str.ofString "__next__") hit.typeIs F.slot_dict_keyiterator_next
    (wpAny_call_entry F.slot_dict_keyiterator_next hit.typeIs F.entry_dict_keyiterator_next ?_ (F.args_dict_keyiterator_next_1 _))))
  refine wpAny_bind (wpAny_pure ?_)
  refine wpAny_bind ?_
  refine wpAny_bind ?_
  first | refine wpAny_bind (wpAny_typeNameOfWhole_keyiter hit.typeIs (wpAny_pure ?_)) | refine wpAny_bind (wpAny_typeNameOf_keyiter hit.typeIs (wpAny_pure ?_))
  refine wpAny_bind (wpAny_fieldsOf ho hd ?_)
  have hown : Builtin.Dict_items.ownsTuple "dict_keyiterator" = false := by decide
  simp only [hown, Bool.false_eq_true, if_false]
  show wpAny _ _ (if (Value.ref d == Value.none) = true then _ else _) _ _ s
  rw [if_neg (show ¬ ((Value.ref d == Value.none) = true) from Bool.false_ne_true)]
  refine wpAny_bind (wpAny_pure ?_)
  refine wpAny_bind (wpAny_dictEntries hod hdd ?_)
  rw [if_neg (by simp)]
  refine wpAny_bind (wpAny_pure ?_)
  refine wpAny_bind (wpAny_dictEpoch hod hdd ?_)
  rw [if_neg (by simp)]
  refine wpAny_pure ?_
  simp only [show ¬ ((i : Int) < 0) from by (first | lia | omega), if_false, Int.toNat_natCast, Array.getElem?_eq_getElem hlt']
  refine wpAny_bind ?_
  first | refine wpAny_bind (wpAny_typeNameOfWhole_keyiter hit.typeIs (wpAny_pure ?_)) | refine wpAny_bind (wpAny_typeNameOf_keyiter hit.typeIs (wpAny_pure ?_))
  refine wpAny_bind (wpAny_isOneOf_keyiter hit.typeIs ?_)
  show wpAny _ _ (setField (.ref it) 1 (rawInt ((i : Int) + 1)) >>= _) _ _ s
  refine wpAny_bind (wpAny_setField ho hd (by simp) ?_)
  have hit' : (s.heap.update it (Obj.mapFields (·.setIfInBounds 1 (rawInt ((i : Int) + 1))))).IsKeyIter it d (i + 1) es.size ep :=
    ⟨_, Heap.get?_update_self _ ho (Obj.isFreed_of_fields (Obj.data_mapFields hd _)), (Obj.cls_mapFields ..).trans hc, by rw [Obj.data_mapFields hd]; simp [rawInt]⟩
  refine wpAny_bind (wpAny_holding ?_)
  refine wpAny_bind (wpAny_isOneOf_keyiter (s := { s with heap := s.heap.update it (Obj.mapFields (·.setIfInBounds 1 (rawInt ((i : Int) + 1)))) }) hit'.typeIs ?_)
  show wpAny _ _ (pure es[i].key) _ _ _
  exact wpAny_pure (wpAny_pure ⟨_, rfl, wpAny_pure (hQ _ hit' (Heap.SameBut.update ..))⟩)
theorem wp_pyNext_dict_end {it d : Addr} {i ep : Nat} {es : Array DictEntry} {Q : Option Value → Shared → Prop} (hh : A.handled = none) (hit : s.heap.IsKeyIter it d i es.size ep) (hm : DAt s.heap d es ep) (hge : es.size ≤ i)
    (hQ : ∀ h', Heap.ExtBut it s.heap h' → Q none { s with heap := h' }) : wpAny (model prog w) A (pyNext (.ref it)) Q E s := by
  obtain ⟨o, ho, hc, hd⟩ := id hit
  obtain ⟨od, hod, hcd, hdd⟩ := id hm
  unfold pyNext
  refine wpAny_bind (wpAny_attempt (wpAny_callSpecial?_slot (name := Str.ofString "__next__") hit.typeIs F.slot_dict_keyiterator_next
    (wpAny_call_entry F.slot_dict_keyiterator_next hit.typeIs F.entry_dict_keyiterator_next ?_ (F.args_dict_keyiterator_next_1 _))))
  refine wpAny_bind (wpAny_pure ?_)
  refine wpAny_bind ?_
  refine wpAny_bind ?_
  first | refine wpAny_bind (wpAny_typeNameOfWhole_keyiter hit.typeIs (wpAny_pure ?_)) | refine wpAny_bind (wpAny_typeNameOf_keyiter hit.typeIs (wpAny_pure ?_))
  refine wpAny_bind (wpAny_fieldsOf ho hd ?_)
  have hown : Builtin.Dict_items.ownsTuple "dict_keyiterator" = false := by decide
  simp only [hown, Bool.false_eq_true, if_false]
  show wpAny _ _ (if (Value.ref d == Value.none) = true then _ else _) _ _ s
  rw [if_neg (show ¬ ((Value.ref d == Value.none) = true) from Bool.false_ne_true)]
  refine wpAny_bind (wpAny_pure ?_)
  refine wpAny_bind (wpAny_dictEntries hod hdd ?_)
  rw [if_neg (by simp)]
  refine wpAny_bind (wpAny_pure ?_)
  refine wpAny_bind (wpAny_dictEpoch hod hdd ?_)
  rw [if_neg (by simp)]
  refine wpAny_pure ?_
  simp only [show ¬ ((i : Int) < 0) from by (first | lia | omega), if_false, Int.toNat_natCast, Array.getElem?_eq_none hge]
  refine wpAny_bind ?_
  first | refine wpAny_bind (wpAny_typeNameOfWhole_keyiter hit.typeIs (wpAny_pure ?_)) | refine wpAny_bind (wpAny_typeNameOf_keyiter hit.typeIs (wpAny_pure ?_))
  show wpAny _ _ (setField (.ref it) 0 .none >>= _) _ _ s
  refine wpAny_bind (wpAny_setField ho hd (by simp) ?_)
  show wpAny _ _ (newExc (.type "StopIteration") [] >>= _) _ _ _
  refine wpAny_bind ?_
  simp only [newExc, newTuple]
  refine wpAny_bind (wpAny_newObj_type ?_ (by size_fits))
  refine wpAny_bind (m := firstArgMember _ _) (wpAny_of_eq (a := Value.none) (by first | rfl | (simp only [firstArgMember]; rfl)) ?_)
  refine wpAny_newObj_type ?_ (by size_fits)
  simp only [raiseNew]
  refine wpAny_bind (wpAny_handled ?_)
  rw [show A.in1.handled = none from hh]
  refine wpAny_bind (wpAny_pure (wpAny_throw ?_))
  refine wpAny_bind (wpAny_isInstance (T := "StopIteration") (b := true) ⟨_, Heap.get?_push_size _ rfl, rfl⟩ isSubtype_stop ?_)
  exact wpAny_pure (hQ _ (((Heap.SameBut.update ..).extBut.push _).push _))
end
theorem wk_dct {w : World} {A : Around} {K₀ : KM} {I d : Addr} {es : Array DictEntry} {ep : Nat} {us : List V} (hh : A.handled = none) (hne : d ≠ I) (hk : K₀ d ≠ none) (rs : Reps w K₀ us (es.toList.map (·.key))) :
    Wk w A K₀ I [I] us (fun i h => h.IsKeyIter I d i es.size ep ∧ DAt h d es ep) (fun i _ h => h.IsKeyIter I d (i + 1) es.size ep ∧ DAt h d es ep) true where
  mem := .head _
  stay := fun i h h' ⟨⟨o, a, b⟩, ⟨o', c, e⟩⟩ kp => ⟨⟨o, kp _ _ (.inl (.head _)) a, b⟩, ⟨o', kp _ _ (.inr hk) c, e⟩⟩
  live := fun i h ⟨⟨o, a, b⟩, _⟩ x hx => by simp at hx; subst hx; exact ⟨_, a⟩
  item := fun i u K s Q E hx ⟨a, b⟩ le ok nw hQ => by
    obtain ⟨v, e2, rv⟩ := rs.get hx
    have hlt : i < es.size := by
      rw [List.getElem?_map, Option.map_eq_some_iff] at e2
      obtain ⟨e, e2, _⟩ := e2
      simpa using (List.getElem?_eq_some_iff.mp e2).1
    have hv : es[i].key = v := by simpa [hlt] using e2
    refine wp_pyNext_dict_item a b hlt fun h' hi hs => ?_
    rw [hv]
    have kp : ∀ b o, b ∉ [I] → s.heap.get? b = some o → h'.get? b = some o := fun b o hb e => (hs.2 b (fun q => hb (by simp [q]))).trans e
    obtain ⟨od, e3, e4⟩ := id b
    refine hQ v K h' s.toks (fun _ _ e => e) (fun _ _ e => .inl e) (fun b o e => kp b o (fun m => by rw [nw b m] at e; cases e) (ok b o e)) ⟨hi, od, kp _ _ (by simp [hne]) e3, e4⟩ kp (fun b hb => ?_) (rv.mono le)
    simp at hb; subst hb; obtain ⟨o, e, _⟩ := hi; exact ⟨o, e⟩
  done := fun s Q E ⟨a, b⟩ hQ => by
    refine wp_pyNext_dict_end hh a b (by rw [rs.length]; simp) fun h' he => ?_
    exact hQ h' s.toks fun b o hb e => he b o (fun q => hb (by simp [q])) e
  self := fun i s Q E ⟨a, b⟩ hQ => wpAny_pyIter_keyiter a hQ
  goT := fun i v s Q E elts x1 pos ⟨a, b⟩ hQ => by
    obtain ⟨o, e, c, d⟩ := id a
    exact letGo_other e c d (by decide) (hQ _ ⟨a, b⟩ fun _ _ _ e => e)
  goN := fun _ i v h st => st
section
variable {C : Cx} {f : Fm} {st : St} {H : Addr → Option AO} {d : Nat} {Q : V → (Addr → Option AO) → Prop}
inductive DctI (Q : List V → Bool → St → Prop) (u : V) (st : St) : Prop
  | mk (es : List (List Int × V)) (e : u = .dct es) (q : Q (es.map fun e => V.ints e.1) true st)
theorem awI_dct {e : Expr} {Q : List V → Bool → St → Prop} (h : aw C f e (DctI Q) st) : awI C f e Q st := by
  intro P K env A s Qc E hA hE hX R k
  refine h P K env A s _ E hA hE hX R ?_
  rintro u v st₁ K₁ h₁ tk₁ g₁ R₁ r ⟨es, rfl, q⟩
  cases r with | dct h1 hk hc hd he hn hx r1 r2 =>
  rename_i a o ees n xs
  have hl : DAt h₁ a ees n := ⟨o, R₁.rh.froz _ _ hk, hc.1, hd⟩
  have ne : a ≠ h₁.objs.size := Nat.ne_of_lt (Heap.lt_size (R₁.rh.froz _ _ hk))
  refine wp_pyIter_dict (beq_eq_false_iff_ne.mpr h1) hl ?_
  have R₂ := R₁.push { cls := .type "dict_keyiterator", data := .fields #[.ref a, .int 0 0, .int ees.size 0, .int n 0] }
  have hkeys : ees.toList.map (·.key) = xs.map fun x => Value.ref x.2.1 := by rw [he, List.map_map]; rfl
  exact k _ _ st₁ K₁ _ _ _ [h₁.objs.size] _ _ g₁ R₂ (wk_dct hA.hh ne (by rw [hk]; simp) (by rw [hkeys]; exact r1)) ⟨⟨_, Heap.get?_push_size _ rfl, rfl, rfl⟩, o, Heap.get?_push_of_some _ (R₁.rh.froz _ _ hk), hc.1, hd⟩
    (fun b hb => by simp at hb; subst hb; exact R₁.idle (get_size h₁)) q

/- d.get(key, dflt) -/
theorem meth_dict {a : Addr} {es : List (List Int × V)} {name : Str} {id : String} (hH : H a = some (.dictI es)) (slot : Slot "dict" name id) (hty : typeOf (.builtin id) = pure (.type "method_descriptor")) :
    MethOk C (.raw (.ref a)) name H (.builtin id) [.raw (.ref a)] := by
  intro P K A s v pl Qc E hA hs R r k
  (first | cases r.raw' | obtain ⟨_, rfl⟩ := r.int' | obtain ⟨_, rfl⟩ := r.str' | cases r.bool' | cases r)
  obtain ⟨⟨ob, ho, hc, _⟩, _⟩ := R.objs _ _ hH
  exact getMethod_builtin ⟨_, ho, hc.1⟩ PySem.F.plainAttrs_dict slot hty (fun b e => by cases e; exact ⟨_, ho, hc.2.1⟩) (k [_] s.toks (.cons (.raw _) .nil))
theorem fn_dict_get {a : Addr} {es : List (List Int × V)} {k : List Int} {u : V} (ha : a ≠ sysModules) (hH : H a = some (.dictI es)) (q : Q ((alook es k).getD u) H) : Fn C d (.builtin "dict.get") [.raw (.ref a), .ints k, u] H Q := by
  intro P K A s vs Qc E hA hX R r kq
  obtain ⟨v, v', v'', rfl, r1, r2, r3⟩ := r.three
  (first | cases r1.raw' | obtain ⟨_, rfl⟩ := r1.int' | obtain ⟨_, rfl⟩ := r1.str' | cases r1.bool' | cases r1)
  obtain ⟨ka, rfl⟩ := (kkI C.w).ref r2
  obtain ⟨⟨ob, ho, ro⟩, _⟩ := R.objs _ _ hH
  obtain ⟨xs, hm, hx, e1, e2⟩ := DictRep.of (kk := kkI C.w) ro R.froz ho
  obtain ⟨l1, l2⟩ := look_rep (k := k) hx e2
  refine call_meetsIn F.slot_dict_get hm.typeIs F.entry_dict_get (F.args_dict_get_3 _ _ _) (meetsH_dict_get_default (tupleKind (iKind C.w)) a ka (beq_eq_false_iff_ne.mpr ha) v'') ⟨(kkI C.w).room (by have := hA.u; show A.units + 1 + 90 < _; (first | lia | omega)), k, xs, (kkI C.w).is (r2.mono fun a o e => R.froz a o e), hm, ?_⟩
  cases z : alook es k with
  | none =>
    rw [z] at q
    have := l1 z
    show Qc _ _
    rw [this]
    exact kq _ _ H K s.heap _ (KGe.refl P K) R r3 q
  | some u' =>
    obtain ⟨p, e, rp⟩ := l2 u' z
    rw [z] at q
    show Qc _ _
    rw [e]
    exact kq _ _ H K s.heap _ (KGe.refl P K) R rp q
end
end Mine
end

section
open PySem PySem.W PyProof.Rows PySem.Calls
set_option Elab.async false
set_option maxRecDepth 100000
set_option linter.unusedVariables false
namespace Mine
noncomputable def fdAt (P : Params) (a : Addr) : FuncData := match (HF P).lookup a with | some ⟨_, _, .func fd, _⟩ => fd | _ => default
noncomputable def bd (P : Params) (a : Addr) : List Stmt := match (fdAt P a).body with | .stmts b => b | _ => []
noncomputable def sc (P : Params) (a : Addr) : Scope := (fdAt P a).scope
def nodupB : List Str → Bool
  | [] => true
  | x :: r => !(r.contains x) && nodupB r
theorem nodup_of : ∀ {l : List Str}, nodupB l = true → l.Nodup
  | [], _ => .nil
  | x :: r, h => by
    unfold nodupB at h
    simp only [Bool.and_eq_true, Bool.not_eq_true'] at h
    refine List.nodup_cons.mpr ⟨fun m => ?_, nodup_of h.2⟩
    have := List.contains_iff_mem.mpr m
    rw [h.1] at this; cases this
noncomputable def defOk (P : Params) (a : Addr) (ps : List Str) : Bool := match (HF P).lookup a with
  | some ⟨_, _, .func fd, _⟩ => codeIn (HF P) fd.code fd.qualname && (match fd.body with | .stmts _ => true | _ => false) && fd.closure.isEmpty && fd.globals == mainGlobals && fd.builtins == builtinsNs && !fd.scope.isCoroutine && !fd.scope.isGenerator && fd.scope.kind == .function && nodupB ps
  | _ => false
theorem DefAt.of {C : Cx} {a : Addr} {ps : List Str} (h : defOk C.w.params a ps = true) (hb : ∀ vs : List Value, vs.length = ps.length → bindArgs (fdAt C.w.params a) ⟨vs, []⟩ = pure (ps.zip vs)) : DefAt C a ps (bd C.w.params a) (sc C.w.params a) := by
  unfold defOk at h
  unfold bd sc
  cases q : (HF C.w.params).lookup a with
  | none => rw [q] at h; cases h
  | some o =>
    rw [q] at h
    obtain ⟨oc, od, dt, osl⟩ := o
    cases dt with
    | func fd =>
      have e : fdAt C.w.params a = fd := by unfold fdAt; rw [q]
      rw [e] at hb ⊢
      simp only [Bool.and_eq_true, beq_iff_eq, Bool.not_eq_true', List.isEmpty_iff] at h
      obtain ⟨⟨⟨⟨⟨⟨⟨⟨h1, h2⟩, h3⟩, h4⟩, h5⟩, h6⟩, h7⟩, h8⟩, h9⟩ := h
      refine ⟨⟨oc, od, fd, osl, q, h1, ?_, h3, rfl, h4, h5, hb⟩, nodup_of h9, h6, h7, h8⟩
      cases z : fd.body with
      | stmts b => rfl
      | _ => rw [z] at h2; cases h2
    | _ => cases h
theorem len1 {α : Type} {l : List α} (h : l.length = 1) : ∃ a, l = [a] := by
  match l, h with
  | [a], _ => exact ⟨a, rfl⟩
theorem len2 {α : Type} {l : List α} (h : l.length = 2) : ∃ a b, l = [a, b] := by
  match l, h with
  | [a, b], _ => exact ⟨a, b, rfl⟩
theorem len3 {α : Type} {l : List α} (h : l.length = 3) : ∃ a b c, l = [a, b, c] := by
  match l, h with
  | [a, b, c], _ => exact ⟨a, b, c, rfl⟩
theorem len4 {α : Type} {l : List α} (h : l.length = 4) : ∃ a b c d, l = [a, b, c, d] := by
  match l, h with
  | [a, b, c, d], _ => exact ⟨a, b, c, d, rfl⟩
theorem len5 {α : Type} {l : List α} (h : l.length = 5) : ∃ a b c d e, l = [a, b, c, d, e] := by
  match l, h with
  | [a, b, c, d, e], _ => exact ⟨a, b, c, d, e, rfl⟩
theorem len6 {α : Type} {l : List α} (h : l.length = 6) : ∃ a b c d e g, l = [a, b, c, d, e, g] := by
  match l, h with
  | [a, b, c, d, e, g], _ => exact ⟨a, b, c, d, e, g, rfl⟩
theorem ok_kept (P : Params) : defOk P 74 ["self", "node"] = true := by kernel_rfl
theorem bind_kept (P : Params) (a b : Value) : bindArgs (fdAt P 74) ⟨[a, b], []⟩ = pure ((["self", "node"] : List Str).zip [a, b]) := by kernel_rfl
theorem def_kept {C : Cx} : DefAt C 74 ["self", "node"] (bd C.w.params 74) (sc C.w.params 74) := DefAt.of (ok_kept _) fun vs h => by obtain ⟨a, b, rfl⟩ := len2 h; exact bind_kept _ a b
end Mine
namespace Mine
noncomputable def plainOk (P : Params) (a : Addr) (ps : List Str) : Bool := ps.all (fun x => (sc P a).names.lookup x == some NameKind.local) && (sc P a).names.all (fun x => x.2 != NameKind.cell)
noncomputable def cellOk (P : Params) (a : Addr) (ps : List Str) : Bool := ps.all (fun x => (sc P a).names.lookup x == some NameKind.local || (sc P a).names.lookup x == some NameKind.cell)
theorem fn_plain {C : Cx} {fa : Addr} {ps : List Str} {d : Nat} {us : List V} {H : Addr → Option AO} {Q : V → (Addr → Option AO) → Prop} (D : DefAt C fa ps (bd C.w.params fa) (sc C.w.params fa)) (hn : us.length = ps.length) (hp : plainOk C.w.params fa ps = true)
    (h : ax C ⟨sc C.w.params fa, true, d⟩ (bd C.w.params fa) (endQ Q) ⟨mOf ps us, H⟩) : Fn C (d + 1) (.ref fa) us H Q := by
  unfold plainOk at hp
  simp only [Bool.and_eq_true, List.all_eq_true, beq_iff_eq, bne_iff_ne] at hp
  exact fn_def D hn hp.1 hp.2 h
theorem fn_cell {C : Cx} {fa : Addr} {ps : List Str} {d : Nat} {us : List V} {H : Addr → Option AO} {Q : V → (Addr → Option AO) → Prop} (D : DefAt C fa ps (bd C.w.params fa) (sc C.w.params fa)) (hn : us.length = ps.length) (hp : cellOk C.w.params fa ps = true)
    (hnd : ∀ n, nodupB ((cellsFrom n (sc C.w.params fa).names []).map (·.1)) = true)
    (h : ax C ⟨sc C.w.params fa, true, d⟩ (bd C.w.params fa) (endQ Q) ⟨mOf ps us, H⟩) : Fn C (d + 1) (.ref fa) us H Q := by
  unfold cellOk at hp
  simp only [Bool.or_eq_true, List.all_eq_true, beq_iff_eq] at hp
  refine fn_defC D hn (fun n x hx => ?_) (fun n => nodup_of (hnd n)) h
  rcases hp x hx with e | e
  · exact .inl e
  · exact .inr ⟨e, cellsFrom_some _ _ _ (.inl e)⟩
end Mine
end

section
open PySem PySem.W PyProof.Rows PySem.Calls
set_option Elab.async false
set_option maxRecDepth 100000
set_option linter.unusedVariables false
namespace Mine
section
variable {C : Cx}
theorem def_tidy : DefAt C 53 ["spans"] (bd C.w.params 53) (sc C.w.params 53) := DefAt.of (by kernel_rfl) fun vs h => by
  obtain ⟨v0, rfl⟩ := len1 h
  show bindArgs (fdAt C.w.params 53) ⟨[v0], []⟩ = pure ((["spans"] : List Str).zip [v0])
  kernel_rfl
theorem def_init : DefAt C 67 ["self", "tops"] (bd C.w.params 67) (sc C.w.params 67) := DefAt.of (by kernel_rfl) fun vs h => by
  obtain ⟨v0, v1, rfl⟩ := len2 h
  show bindArgs (fdAt C.w.params 67) ⟨[v0, v1], []⟩ = pure ((["self", "tops"] : List Str).zip [v0, v1])
  kernel_rfl
theorem def_leaf : DefAt C 81 ["self", "value"] (bd C.w.params 81) (sc C.w.params 81) := DefAt.of (by kernel_rfl) fun vs h => by
  obtain ⟨v0, v1, rfl⟩ := len2 h
  show bindArgs (fdAt C.w.params 81) ⟨[v0, v1], []⟩ = pure ((["self", "value"] : List Str).zip [v0, v1])
  kernel_rfl
theorem def_make : DefAt C 88 ["self", "variable", "parts"] (bd C.w.params 88) (sc C.w.params 88) := DefAt.of (by kernel_rfl) fun vs h => by
  obtain ⟨v0, v1, v2, rfl⟩ := len3 h
  show bindArgs (fdAt C.w.params 88) ⟨[v0, v1, v2], []⟩ = pure ((["self", "variable", "parts"] : List Str).zip [v0, v1, v2])
  kernel_rfl
theorem def_node : DefAt C 95 ["self", "number"] (bd C.w.params 95) (sc C.w.params 95) := DefAt.of (by kernel_rfl) fun vs h => by
  obtain ⟨v0, v1, rfl⟩ := len2 h
  show bindArgs (fdAt C.w.params 95) ⟨[v0, v1], []⟩ = pure ((["self", "number"] : List Str).zip [v0, v1])
  kernel_rfl
theorem def_level : DefAt C 102 ["self", "number"] (bd C.w.params 102) (sc C.w.params 102) := DefAt.of (by kernel_rfl) fun vs h => by
  obtain ⟨v0, v1, rfl⟩ := len2 h
  show bindArgs (fdAt C.w.params 102) ⟨[v0, v1], []⟩ = pure ((["self", "number"] : List Str).zip [v0, v1])
  kernel_rfl
theorem def_parts_at : DefAt C 116 ["diagrams", "number", "variable"] (bd C.w.params 116) (sc C.w.params 116) := DefAt.of (by kernel_rfl) fun vs h => by
  obtain ⟨v0, v1, v2, rfl⟩ := len3 h
  show bindArgs (fdAt C.w.params 116) ⟨[v0, v1, v2], []⟩ = pure ((["diagrams", "number", "variable"] : List Str).zip [v0, v1, v2])
  kernel_rfl
theorem def_split : DefAt C 121 ["diagrams", "numbers"] (bd C.w.params 121) (sc C.w.params 121) := DefAt.of (by kernel_rfl) fun vs h => by
  obtain ⟨v0, v1, rfl⟩ := len2 h
  show bindArgs (fdAt C.w.params 121) ⟨[v0, v1], []⟩ = pure ((["diagrams", "numbers"] : List Str).zip [v0, v1])
  kernel_rfl
theorem def_below : DefAt C 128 ["parts", "value"] (bd C.w.params 128) (sc C.w.params 128) := DefAt.of (by kernel_rfl) fun vs h => by
  obtain ⟨v0, v1, rfl⟩ := len2 h
  show bindArgs (fdAt C.w.params 128) ⟨[v0, v1], []⟩ = pure ((["parts", "value"] : List Str).zip [v0, v1])
  kernel_rfl
theorem def_value_at : DefAt C 135 ["diagrams", "number", "values"] (bd C.w.params 135) (sc C.w.params 135) := DefAt.of (by kernel_rfl) fun vs h => by
  obtain ⟨v0, v1, v2, rfl⟩ := len3 h
  show bindArgs (fdAt C.w.params 135) ⟨[v0, v1, v2], []⟩ = pure ((["diagrams", "number", "values"] : List Str).zip [v0, v1, v2])
  kernel_rfl
theorem def_test : DefAt C 142 ["diagrams", "variable", "spans", "yes", "no"] (bd C.w.params 142) (sc C.w.params 142) := DefAt.of (by kernel_rfl) fun vs h => by
  obtain ⟨v0, v1, v2, v3, v4, rfl⟩ := len5 h
  show bindArgs (fdAt C.w.params 142) ⟨[v0, v1, v2, v3, v4], []⟩ = pure ((["diagrams", "variable", "spans", "yes", "no"] : List Str).zip [v0, v1, v2, v3, v4])
  kernel_rfl
theorem def_choose : DefAt C 147 ["diagrams", "cond", "yes", "no"] (bd C.w.params 147) (sc C.w.params 147) := DefAt.of (by kernel_rfl) fun vs h => by
  obtain ⟨v0, v1, v2, v3, rfl⟩ := len4 h
  show bindArgs (fdAt C.w.params 147) ⟨[v0, v1, v2, v3], []⟩ = pure ((["diagrams", "cond", "yes", "no"] : List Str).zip [v0, v1, v2, v3])
  kernel_rfl
theorem def_both : DefAt C 154 ["diagrams", "a", "b"] (bd C.w.params 154) (sc C.w.params 154) := DefAt.of (by kernel_rfl) fun vs h => by
  obtain ⟨v0, v1, v2, rfl⟩ := len3 h
  show bindArgs (fdAt C.w.params 154) ⟨[v0, v1, v2], []⟩ = pure ((["diagrams", "a", "b"] : List Str).zip [v0, v1, v2])
  kernel_rfl
theorem def_either : DefAt C 161 ["diagrams", "a", "b"] (bd C.w.params 161) (sc C.w.params 161) := DefAt.of (by kernel_rfl) fun vs h => by
  obtain ⟨v0, v1, v2, rfl⟩ := len3 h
  show bindArgs (fdAt C.w.params 161) ⟨[v0, v1, v2], []⟩ = pure ((["diagrams", "a", "b"] : List Str).zip [v0, v1, v2])
  kernel_rfl
theorem def_negate : DefAt C 168 ["diagrams", "a"] (bd C.w.params 168) (sc C.w.params 168) := DefAt.of (by kernel_rfl) fun vs h => by
  obtain ⟨v0, v1, rfl⟩ := len2 h
  show bindArgs (fdAt C.w.params 168) ⟨[v0, v1], []⟩ = pure ((["diagrams", "a"] : List Str).zip [v0, v1])
  kernel_rfl
theorem def_law_drawn : DefAt C 175 ["script"] (bd C.w.params 175) (sc C.w.params 175) := DefAt.of (by kernel_rfl) fun vs h => by
  obtain ⟨v0, rfl⟩ := len1 h
  show bindArgs (fdAt C.w.params 175) ⟨[v0], []⟩ = pure ((["script"] : List Str).zip [v0])
  kernel_rfl
theorem def_law_spans : DefAt C 182 ["n", "top"] (bd C.w.params 182) (sc C.w.params 182) := DefAt.of (by kernel_rfl) fun vs h => by
  obtain ⟨v0, v1, rfl⟩ := len2 h
  show bindArgs (fdAt C.w.params 182) ⟨[v0, v1], []⟩ = pure ((["n", "top"] : List Str).zip [v0, v1])
  kernel_rfl
theorem def_law_steps : DefAt C 187 ["told", "tops"] (bd C.w.params 187) (sc C.w.params 187) := DefAt.of (by kernel_rfl) fun vs h => by
  obtain ⟨v0, v1, rfl⟩ := len2 h
  show bindArgs (fdAt C.w.params 187) ⟨[v0, v1], []⟩ = pure ((["told", "tops"] : List Str).zip [v0, v1])
  kernel_rfl
theorem def_law_within : DefAt C 194 ["spans", "n"] (bd C.w.params 194) (sc C.w.params 194) := DefAt.of (by kernel_rfl) fun vs h => by
  obtain ⟨v0, v1, rfl⟩ := len2 h
  show bindArgs (fdAt C.w.params 194) ⟨[v0, v1], []⟩ = pure ((["spans", "n"] : List Str).zip [v0, v1])
  kernel_rfl
theorem def_law_tried : DefAt C 201 ["steps", "cell"] (bd C.w.params 201) (sc C.w.params 201) := DefAt.of (by kernel_rfl) fun vs h => by
  obtain ⟨v0, v1, rfl⟩ := len2 h
  show bindArgs (fdAt C.w.params 201) ⟨[v0, v1], []⟩ = pure ((["steps", "cell"] : List Str).zip [v0, v1])
  kernel_rfl
theorem def_law_node : DefAt C 208 ["diagrams", "steps"] (bd C.w.params 208) (sc C.w.params 208) := DefAt.of (by kernel_rfl) fun vs h => by
  obtain ⟨v0, v1, rfl⟩ := len2 h
  show bindArgs (fdAt C.w.params 208) ⟨[v0, v1], []⟩ = pure ((["diagrams", "steps"] : List Str).zip [v0, v1])
  kernel_rfl
theorem def_law_counts : DefAt C 213 ["cells", "truths", "left", "variable", "low", "high"] (bd C.w.params 213) (sc C.w.params 213) := DefAt.of (by kernel_rfl) fun vs h => by
  obtain ⟨v0, v1, v2, v3, v4, v5, rfl⟩ := len6 h
  show bindArgs (fdAt C.w.params 213) ⟨[v0, v1, v2, v3, v4, v5], []⟩ = pure ((["cells", "truths", "left", "variable", "low", "high"] : List Str).zip [v0, v1, v2, v3, v4, v5])
  kernel_rfl
theorem def_law_by_hand : DefAt C 218 ["diagrams", "counts", "left", "key"] (bd C.w.params 218) (sc C.w.params 218) := DefAt.of (by kernel_rfl) fun vs h => by
  obtain ⟨v0, v1, v2, v3, rfl⟩ := len4 h
  show bindArgs (fdAt C.w.params 218) ⟨[v0, v1, v2, v3], []⟩ = pure ((["diagrams", "counts", "left", "key"] : List Str).zip [v0, v1, v2, v3])
  kernel_rfl
theorem def_law_fixed : DefAt C 223 ["diagrams", "number", "variable", "value"] (bd C.w.params 223) (sc C.w.params 223) := DefAt.of (by kernel_rfl) fun vs h => by
  obtain ⟨v0, v1, v2, v3, rfl⟩ := len4 h
  show bindArgs (fdAt C.w.params 223) ⟨[v0, v1, v2, v3], []⟩ = pure ((["diagrams", "number", "variable", "value"] : List Str).zip [v0, v1, v2, v3])
  kernel_rfl
theorem def_law_plus : DefAt C 228 ["diagrams", "a", "b"] (bd C.w.params 228) (sc C.w.params 228) := DefAt.of (by kernel_rfl) fun vs h => by
  obtain ⟨v0, v1, v2, rfl⟩ := len3 h
  show bindArgs (fdAt C.w.params 228) ⟨[v0, v1, v2], []⟩ = pure ((["diagrams", "a", "b"] : List Str).zip [v0, v1, v2])
  kernel_rfl
theorem def_law_is_told : DefAt C 233 ["diagrams", "number", "left", "counts"] (bd C.w.params 233) (sc C.w.params 233) := DefAt.of (by kernel_rfl) fun vs h => by
  obtain ⟨v0, v1, v2, v3, rfl⟩ := len4 h
  show bindArgs (fdAt C.w.params 233) ⟨[v0, v1, v2, v3], []⟩ = pure ((["diagrams", "number", "left", "counts"] : List Str).zip [v0, v1, v2, v3])
  kernel_rfl
theorem def_law_counted_away : DefAt C 240 ["diagrams", "cells", "truths", "number", "sequence"] (bd C.w.params 240) (sc C.w.params 240) := DefAt.of (by kernel_rfl) fun vs h => by
  obtain ⟨v0, v1, v2, v3, v4, rfl⟩ := len5 h
  show bindArgs (fdAt C.w.params 240) ⟨[v0, v1, v2, v3, v4], []⟩ = pure ((["diagrams", "cells", "truths", "number", "sequence"] : List Str).zip [v0, v1, v2, v3, v4])
  kernel_rfl
theorem def_law : DefAt C 245 ["script"] (bd C.w.params 245) (sc C.w.params 245) := DefAt.of (by kernel_rfl) fun vs h => by
  obtain ⟨v0, rfl⟩ := len1 h
  show bindArgs (fdAt C.w.params 245) ⟨[v0], []⟩ = pure ((["script"] : List Str).zip [v0])
  kernel_rfl
theorem keep_kept : Keeps1 C (.ref 74) := keeps1_ref (by kernel_rfl)
theorem keep_tidy : Keeps1 C (.ref 53) := keeps1_ref (by kernel_rfl)
theorem keep_init : Keeps1 C (.ref 67) := keeps1_ref (by kernel_rfl)
theorem keep_leaf : Keeps1 C (.ref 81) := keeps1_ref (by kernel_rfl)
theorem keep_make : Keeps1 C (.ref 88) := keeps1_ref (by kernel_rfl)
theorem keep_node : Keeps1 C (.ref 95) := keeps1_ref (by kernel_rfl)
theorem keep_level : Keeps1 C (.ref 102) := keeps1_ref (by kernel_rfl)
theorem keep_parts_at : Keeps1 C (.ref 116) := keeps1_ref (by kernel_rfl)
theorem keep_split : Keeps1 C (.ref 121) := keeps1_ref (by kernel_rfl)
theorem keep_below : Keeps1 C (.ref 128) := keeps1_ref (by kernel_rfl)
theorem keep_value_at : Keeps1 C (.ref 135) := keeps1_ref (by kernel_rfl)
theorem keep_test : Keeps1 C (.ref 142) := keeps1_ref (by kernel_rfl)
theorem keep_choose : Keeps1 C (.ref 147) := keeps1_ref (by kernel_rfl)
theorem keep_both : Keeps1 C (.ref 154) := keeps1_ref (by kernel_rfl)
theorem keep_either : Keeps1 C (.ref 161) := keeps1_ref (by kernel_rfl)
theorem keep_negate : Keeps1 C (.ref 168) := keeps1_ref (by kernel_rfl)
theorem keep_law_drawn : Keeps1 C (.ref 175) := keeps1_ref (by kernel_rfl)
theorem keep_law_spans : Keeps1 C (.ref 182) := keeps1_ref (by kernel_rfl)
theorem keep_law_steps : Keeps1 C (.ref 187) := keeps1_ref (by kernel_rfl)
theorem keep_law_within : Keeps1 C (.ref 194) := keeps1_ref (by kernel_rfl)
theorem keep_law_tried : Keeps1 C (.ref 201) := keeps1_ref (by kernel_rfl)
theorem keep_law_node : Keeps1 C (.ref 208) := keeps1_ref (by kernel_rfl)
theorem keep_law_counts : Keeps1 C (.ref 213) := keeps1_ref (by kernel_rfl)
theorem keep_law_by_hand : Keeps1 C (.ref 218) := keeps1_ref (by kernel_rfl)
theorem keep_law_fixed : Keeps1 C (.ref 223) := keeps1_ref (by kernel_rfl)
theorem keep_law_plus : Keeps1 C (.ref 228) := keeps1_ref (by kernel_rfl)
theorem keep_law_is_told : Keeps1 C (.ref 233) := keeps1_ref (by kernel_rfl)
theorem keep_law_counted_away : Keeps1 C (.ref 240) := keeps1_ref (by kernel_rfl)
theorem keep_law : Keeps1 C (.ref 245) := keeps1_ref (by kernel_rfl)
theorem g_tidy : C.mg "tidy" = some (.ref 53) := mg_of C.X C.g (by kernel_rfl)
theorem g_parts_at : C.mg "parts_at" = some (.ref 116) := mg_of C.X C.g (by kernel_rfl)
theorem g_split : C.mg "split" = some (.ref 121) := mg_of C.X C.g (by kernel_rfl)
theorem g_below : C.mg "below" = some (.ref 128) := mg_of C.X C.g (by kernel_rfl)
theorem g_value_at : C.mg "value_at" = some (.ref 135) := mg_of C.X C.g (by kernel_rfl)
theorem g_test : C.mg "test" = some (.ref 142) := mg_of C.X C.g (by kernel_rfl)
theorem g_choose : C.mg "choose" = some (.ref 147) := mg_of C.X C.g (by kernel_rfl)
theorem g_both : C.mg "both" = some (.ref 154) := mg_of C.X C.g (by kernel_rfl)
theorem g_either : C.mg "either" = some (.ref 161) := mg_of C.X C.g (by kernel_rfl)
theorem g_negate : C.mg "negate" = some (.ref 168) := mg_of C.X C.g (by kernel_rfl)
theorem g_law_drawn : C.mg "_law_drawn" = some (.ref 175) := mg_of C.X C.g (by kernel_rfl)
theorem g_law_spans : C.mg "_law_spans" = some (.ref 182) := mg_of C.X C.g (by kernel_rfl)
theorem g_law_steps : C.mg "_law_steps" = some (.ref 187) := mg_of C.X C.g (by kernel_rfl)
theorem g_law_within : C.mg "_law_within" = some (.ref 194) := mg_of C.X C.g (by kernel_rfl)
theorem g_law_tried : C.mg "_law_tried" = some (.ref 201) := mg_of C.X C.g (by kernel_rfl)
theorem g_law_node : C.mg "_law_node" = some (.ref 208) := mg_of C.X C.g (by kernel_rfl)
theorem g_law_counts : C.mg "_law_counts" = some (.ref 213) := mg_of C.X C.g (by kernel_rfl)
theorem g_law_by_hand : C.mg "_law_by_hand" = some (.ref 218) := mg_of C.X C.g (by kernel_rfl)
theorem g_law_fixed : C.mg "_law_fixed" = some (.ref 223) := mg_of C.X C.g (by kernel_rfl)
theorem g_law_plus : C.mg "_law_plus" = some (.ref 228) := mg_of C.X C.g (by kernel_rfl)
theorem g_law_is_told : C.mg "_law_is_told" = some (.ref 233) := mg_of C.X C.g (by kernel_rfl)
theorem g_law_counted_away : C.mg "_law_counted_away" = some (.ref 240) := mg_of C.X C.g (by kernel_rfl)
theorem g_Diagrams : C.mg "Diagrams" = some (.ref 105) := mg_of C.X C.g (by kernel_rfl)
theorem n_len : C.mg "len" = none := ns_none_of C.X C.g (by kernel_rfl)
theorem n_min : C.mg "min" = none := ns_none_of C.X C.g (by kernel_rfl)
theorem n_enumerate : C.mg "enumerate" = none := ns_none_of C.X C.g (by kernel_rfl)
theorem n_range : C.mg "range" = none := ns_none_of C.X C.g (by kernel_rfl)
theorem n_sorted : C.mg "sorted" = none := ns_none_of C.X C.g (by kernel_rfl)
theorem n_tuple : C.mg "tuple" = none := ns_none_of C.X C.g (by kernel_rfl)
theorem n_sum : C.mg "sum" = none := ns_none_of C.X C.g (by kernel_rfl)
theorem find_kept {P : Params} : findIn (HF P) (.ref 105) "kept" = some (some (.ref 74)) := by kernel_rfl
theorem ty_kept {P : Params} : typeIn (HF P) (.ref 74) = some (.type "function") := by kernel_rfl
theorem pg_kept {P : Params} : plainGet (HF P) 105 "kept" = true := by kernel_rfl
theorem find_leaf {P : Params} : findIn (HF P) (.ref 105) "leaf" = some (some (.ref 81)) := by kernel_rfl
theorem ty_leaf {P : Params} : typeIn (HF P) (.ref 81) = some (.type "function") := by kernel_rfl
theorem pg_leaf {P : Params} : plainGet (HF P) 105 "leaf" = true := by kernel_rfl
theorem find_make {P : Params} : findIn (HF P) (.ref 105) "make" = some (some (.ref 88)) := by kernel_rfl
theorem ty_make {P : Params} : typeIn (HF P) (.ref 88) = some (.type "function") := by kernel_rfl
theorem pg_make {P : Params} : plainGet (HF P) 105 "make" = true := by kernel_rfl
theorem find_node {P : Params} : findIn (HF P) (.ref 105) "node" = some (some (.ref 95)) := by kernel_rfl
theorem ty_node {P : Params} : typeIn (HF P) (.ref 95) = some (.type "function") := by kernel_rfl
theorem pg_node {P : Params} : plainGet (HF P) 105 "node" = true := by kernel_rfl
theorem find_level {P : Params} : findIn (HF P) (.ref 105) "level" = some (some (.ref 102)) := by kernel_rfl
theorem ty_level {P : Params} : typeIn (HF P) (.ref 102) = some (.type "function") := by kernel_rfl
theorem pg_level {P : Params} : plainGet (HF P) 105 "level" = true := by kernel_rfl
theorem find_tops {P : Params} : findIn (HF P) (.ref 105) "tops" = some none := by kernel_rfl
theorem pg_tops {P : Params} : plainGet (HF P) 105 "tops" = true := by kernel_rfl
theorem find_nodes {P : Params} : findIn (HF P) (.ref 105) "nodes" = some none := by kernel_rfl
theorem pg_nodes {P : Params} : plainGet (HF P) 105 "nodes" = true := by kernel_rfl
theorem find_book {P : Params} : findIn (HF P) (.ref 105) "book" = some none := by kernel_rfl
theorem pg_book {P : Params} : plainGet (HF P) 105 "book" = true := by kernel_rfl
theorem find_memo {P : Params} : findIn (HF P) (.ref 105) "memo" = some none := by kernel_rfl
theorem pg_memo {P : Params} : plainGet (HF P) 105 "memo" = true := by kernel_rfl
theorem hasD {P : Params} : hasDictIn (HF P) 105 = true := by kernel_rfl
end
end Mine
end

section
open PySem PySem.W PyProof.Rows PySem.Calls
set_option Elab.async false
set_option maxRecDepth 100000
set_option linter.unusedVariables false
namespace Mine
structure Gd where
  tops : List Int
  an : Addr
  ab : Addr
  am : Addr
def Gd.val (G : Gd) : V := .inst 105 [("tops", V.ints G.tops), ("nodes", .raw (.ref G.an)), ("book", .raw (.ref G.ab)), ("memo", .raw (.ref G.am))]
structure Gd.Ok (G : Gd) : Prop where
  nb : G.an ≠ G.ab
  nm : G.an ≠ G.am
  bm : G.ab ≠ G.am
  b1 : G.ab ≠ sysModules
  m1 : G.am ≠ sysModules
structure Dg where
  nodes : List Node
  memo : List (List Int × Int)
def bookOf (ns : List Node) : List (Node × V) := ns.zipIdx.map fun p => (p.1, .int (p.2 : Nat))
def memoOf (ms : List (List Int × Int)) : List (List Int × V) := ms.map fun e => (e.1, .int e.2)
def DH (G : Gd) (D : Dg) (H : Addr → Option AO) : Addr → Option AO := hput (hput (hput H G.an (.list (D.nodes.map Node.toV))) G.ab (.dictN (bookOf D.nodes))) G.am (.dictI (memoOf D.memo))
section
variable {G : Gd} {D : Dg} {H : Addr → Option AO}
theorem DH_m : DH G D H G.am = some (.dictI (memoOf D.memo)) := hput_self
theorem DH_b (o : G.Ok) : DH G D H G.ab = some (.dictN (bookOf D.nodes)) := by unfold DH; rw [hput_ne o.bm, hput_self]
theorem DH_n (o : G.Ok) : DH G D H G.an = some (.list (D.nodes.map Node.toV)) := by unfold DH; rw [hput_ne o.nm, hput_ne o.nb, hput_self]
theorem DH_ne {a : Addr} (h1 : a ≠ G.an) (h2 : a ≠ G.ab) (h3 : a ≠ G.am) : DH G D H a = H a := by unfold DH; rw [hput_ne h3, hput_ne h2, hput_ne h1]
theorem DH_none (o : G.Ok) {a : Addr} (h : DH G D H a = none) : a ≠ G.an ∧ a ≠ G.ab ∧ a ≠ G.am ∧ H a = none := by
  have h1 : a ≠ G.an := by rintro rfl; rw [DH_n o] at h; cases h
  have h2 : a ≠ G.ab := by rintro rfl; rw [DH_b o] at h; cases h
  have h3 : a ≠ G.am := by rintro rfl; rw [DH_m] at h; cases h
  exact ⟨h1, h2, h3, by rwa [DH_ne h1 h2 h3] at h⟩
theorem DH_put {a : Addr} {x : AO} (h1 : a ≠ G.an) (h2 : a ≠ G.ab) (h3 : a ≠ G.am) : hput (DH G D H) a x = DH G D (hput H a x) := by
  funext b
  unfold DH hput
  by_cases q : b = a
  · subst q; simp [h1, h2, h3]
  · simp [q]
theorem DH_del {a : Addr} (h1 : a ≠ G.an) (h2 : a ≠ G.ab) (h3 : a ≠ G.am) : hdel (DH G D H) a = DH G D (hdel H a) := by
  funext b
  unfold DH hput hdel
  by_cases q : b = a
  · subst q; simp [h1, h2, h3]
  · simp [q]
theorem DH_setM {ms : List (List Int × Int)} : hput (DH G D H) G.am (.dictI (memoOf ms)) = DH G { D with memo := ms } H := by
  funext b; unfold DH hput; by_cases q : b = G.am <;> simp [q]
theorem DH_setN (o : G.Ok) {ns : List Node} : hput (hput (DH G D H) G.ab (.dictN (bookOf ns))) G.an (.list (ns.map Node.toV)) = DH G { D with nodes := ns } H := by
  funext b; unfold DH hput
  by_cases q1 : b = G.an
  · subst q1; simp [o.nb, o.nm]
  · by_cases q2 : b = G.ab
    · subst q2; simp [q1, o.bm]
    · simp [q1, q2]
theorem hput_put {a : Addr} {x y : AO} : hput (hput H a x) a y = hput H a y := by funext b; unfold hput; by_cases q : b = a <;> simp [q]
theorem hdel_put {a : Addr} {x : AO} (h : H a = none) : hdel (hput H a x) a = H := by
  funext b; unfold hput hdel
  by_cases q : b = a
  · subst q; simp [h]
  · simp [q]
theorem hput_del_ne {a b : Addr} {x : AO} (h : a ≠ b) : hdel (hput H a x) b = hput (hdel H b) a x := by
  funext c; unfold hput hdel
  by_cases q : c = b
  · subst q; simp [Ne.symm h]
  · simp [q]

def keepN (ns : List Node) (k : Node) : List Node := if k ∈ ns then ns else ns ++ [k]
theorem alook_map {α : Type} [DecidableEq α] (g : Nat → V) : ∀ (ns : List α) (i : Nat) (k : α), alook ((ns.zipIdx i).map fun p => (p.1, g p.2)) k = if k ∈ ns then some (g (i + ns.idxOf k)) else none
  | [], i, k => rfl
  | x :: ns, i, k => by
    unfold alook
    rw [List.zipIdx_cons, List.map_cons, List.find?_cons]
    by_cases q : x = k
    · subst q; simp
    · simp only [q, decide_false]
      have := alook_map g ns (i + 1) k
      unfold alook at this
      rw [this]
      have q' : ¬ k = x := fun e => q e.symm
      rw [List.idxOf_cons]
      have : (x == k) = false := by simpa using q
      simp only [this, List.mem_cons, q', false_or]
      split
      · congr 2; simp; (first | lia | omega)
      · rfl
theorem look_book {ns : List Node} {k : Node} : alook (bookOf ns) k = if k ∈ ns then some (.int (ns.idxOf k : Nat)) else none := by
  have := alook_map (fun n => V.int (n : Nat)) ns 0 k
  simpa [bookOf] using this
theorem put_book {ns : List Node} {k : Node} (h : k ∉ ns) : aput (bookOf ns) k (.int (ns.length : Nat)) = bookOf (ns ++ [k]) := by
  unfold aput
  rw [look_book, if_neg h]
  simp [bookOf, List.zipIdx_append]
theorem idx_new {ns : List Node} {k : Node} (h : k ∉ ns) : (ns ++ [k]).idxOf k = ns.length := by
  rw [List.idxOf_append]; simp [h]
theorem book_length {ns : List Node} : (bookOf ns).length = ns.length := by simp [bookOf]
end
end Mine
end

section
open PySem PySem.W PyProof.Rows PySem.Calls
set_option Elab.async false
set_option maxRecDepth 100000
set_option linter.unusedVariables false
namespace Mine
section
variable {C : Cx} {f : Fm} {st : St} {G : Gd} {D : Dg} {H : Addr → Option AO} {d : Nat} {Q : V → (Addr → Option AO) → Prop}
theorem lookup_val {name : Str} {r : V} (h : ([("tops", V.ints G.tops), ("nodes", .raw (.ref G.an)), ("book", .raw (.ref G.ab)), ("memo", .raw (.ref G.am))] : List (Str × V)).lookup name = some r) : True := trivial
structure AtQ (a r : V) (Q : V → St → Prop) (u : V) (st : St) : Prop where
  e : u = a
  q : Q r st
theorem aw_nodes {x : Str} {np p : Pos} {Q : V → St → Prop} (h : aw C f (.Name x np) (AtQ G.val (.raw (.ref G.an)) Q) st)
    (he : AttrC x np p "nodes" := by exact ⟨fun _ => rfl⟩) : aw C f (.Attribute (.Name x np) "nodes" p) Q st :=
  aw_attr (h.mono fun u st' ⟨e, q⟩ => ⟨105, _, _, e, rfl, pg_nodes, hasD, ⟨none, find_nodes, rfl⟩, q⟩) he
theorem aw_book {x : Str} {np p : Pos} {Q : V → St → Prop} (h : aw C f (.Name x np) (AtQ G.val (.raw (.ref G.ab)) Q) st)
    (he : AttrC x np p "book" := by exact ⟨fun _ => rfl⟩) : aw C f (.Attribute (.Name x np) "book" p) Q st :=
  aw_attr (h.mono fun u st' ⟨e, q⟩ => ⟨105, _, _, e, rfl, pg_book, hasD, ⟨none, find_book, rfl⟩, q⟩) he
theorem aw_memo {x : Str} {np p : Pos} {Q : V → St → Prop} (h : aw C f (.Name x np) (AtQ G.val (.raw (.ref G.am)) Q) st)
    (he : AttrC x np p "memo" := by exact ⟨fun _ => rfl⟩) : aw C f (.Attribute (.Name x np) "memo" p) Q st :=
  aw_attr (h.mono fun u st' ⟨e, q⟩ => ⟨105, _, _, e, rfl, pg_memo, hasD, ⟨none, find_memo, rfl⟩, q⟩) he
theorem aw_tops {x : Str} {np p : Pos} {Q : V → St → Prop} (h : aw C f (.Name x np) (AtQ G.val (V.ints G.tops) Q) st)
    (he : AttrC x np p "tops" := by exact ⟨fun _ => rfl⟩) : aw C f (.Attribute (.Name x np) "tops" p) Q st :=
  aw_attr (h.mono fun u st' ⟨e, q⟩ => ⟨105, _, _, e, rfl, pg_tops, hasD, ⟨none, find_tops, rfl⟩, q⟩) he

theorem c_kept (o : G.Ok) (hn : D.nodes.length ≤ 2 ^ 20) {k : Node} (q : Q (.int ((keepN D.nodes k).idxOf k : Nat)) (DH G { D with nodes := keepN D.nodes k } H)) : Fn C 2 (.ref 74) [G.val, k.toV] (DH G D H) Q := by
  refine fn_plain def_kept rfl (by kernel_rfl) ?_
  conv => arg 3; whnf
  conv => arg 2; arg 1; whnf
  refine ax_cons (ax1_if (at_cmp (aw_local (u := k.toV) rfl ?_)))
  refine aw_book (aw_local (u := G.val) rfl ⟨rfl, _, notIn_N o.b1 (DH_b o), ?_, ?_⟩)
  · intro hx
    have hk : k ∉ D.nodes := by
      rw [look_book] at hx
      by_cases m : k ∈ D.nodes
      · rw [if_pos m] at hx; cases hx
      · exact m
    have e1 : keepN D.nodes k = D.nodes ++ [k] := if_neg hk
    refine ax_cons (ax1_assign (aw_call keeps1_builtin (aw_builtin n_len rfl ⟨rfl, aws_cons (aw_nodes (aw_local (u := G.val) rfl ⟨rfl, aws_nil ?_⟩))⟩)))
    refine fn_len_H (DH_n o) (by rw [List.length_map]; (first | lia | omega)) ?_
    rw [List.length_map]
    refine aas_sub (aw_book (aw_local (u := G.val) rfl ⟨rfl, aw_local (u := k.toV) rfl ⟨G.ab, _, _, rfl, DH_b o, set_N (by rw [book_length]; (first | lia | omega)), ?_⟩⟩)) (Nat.le_refl _)
    rw [put_book hk]
    refine ax_cons (ax1_expr ?_ (by intro _ e; unfold interactive; rw [e]; rfl))
    have hN : (hput (DH G D H) G.ab (.dictN (bookOf (D.nodes ++ [k])))) G.an = some (.list (D.nodes.map Node.toV)) := by rw [hput_ne o.nb]; exact DH_n o
    refine aw_meth (aw_nodes (aw_local (u := G.val) rfl ⟨rfl, .builtin "list.append", _, keeps1_builtin, meth_list hN F.slot_list_append rfl, aws_cons (aw_local (u := k.toV) rfl (aws_nil ?_))⟩))
    refine fn_append hN (by rw [List.length_map]; (first | lia | omega)) ?_
    refine ax_nil ?_
    refine ax_cons (ax1_ret (aw_sub (aw_book (aw_local (u := G.val) rfl ⟨rfl, aw_local (u := k.toV) rfl ?_⟩)) (Nat.le_refl _)))
    have e2 : (D.nodes.map Node.toV) ++ [k.toV] = (D.nodes ++ [k]).map Node.toV := by simp
    rw [e2, DH_setN o]
    rw [e1] at q
    exact ⟨_, sub_N (DH_b o) (by rw [look_book, if_pos (by simp)]), q⟩
  · intro hx
    have hk : k ∈ D.nodes := by
      rw [look_book] at hx
      by_cases m : k ∈ D.nodes
      · exact m
      · rw [if_neg m] at hx; cases hx
    have e1 : keepN D.nodes k = D.nodes := if_pos hk
    rw [e1] at q
    refine ax_nil ?_
    refine ax_cons (ax1_ret (aw_sub (aw_book (aw_local (u := G.val) rfl ⟨rfl, aw_local (u := k.toV) rfl ?_⟩)) (Nat.le_refl _)))
    exact ⟨_, sub_N (DH_b o) (by rw [look_book, if_pos hk]), q⟩
end
end Mine
end

section
open PySem PySem.W PyProof.Rows PySem.Calls
set_option Elab.async false
set_option maxRecDepth 100000
set_option linter.unusedVariables false
namespace Mine
section
variable {C : Cx} {f : Fm} {st : St} {H : Addr → Option AO} {d : Nat} {Q : V → (Addr → Option AO) → Prop}
theorem cmp_eq_ss {x y : Str} : CmpOk C .Eq (.str x) (.str y) H (x == y) := by
  intro P K A s va vb Qc E hA _ _ ra rb k; (first | cases ra.raw' | obtain ⟨_, rfl⟩ := ra.int' | obtain ⟨_, rfl⟩ := ra.str' | cases ra.bool' | cases ra); (first | cases rb.raw' | obtain ⟨_, rfl⟩ := rb.int' | obtain ⟨_, rfl⟩ := rb.str' | cases rb.bool' | cases rb); exact eq_str (k _)
theorem cmp_ne_ss {x y : Str} : CmpOk C .NotEq (.str x) (.str y) H (x != y) := by
  intro P K A s va vb Qc E hA _ _ ra rb k; (first | cases ra.raw' | obtain ⟨_, rfl⟩ := ra.int' | obtain ⟨_, rfl⟩ := ra.str' | cases ra.bool' | cases ra); (first | cases rb.raw' | obtain ⟨_, rfl⟩ := rb.int' | obtain ⟨_, rfl⟩ := rb.str' | cases rb.bool' | cases rb); exact ne_str (k _)
end
end Mine
end

section
open PySem PySem.W PyProof.Rows PySem.Calls
set_option Elab.async false
set_option maxRecDepth 100000
set_option linter.unusedVariables false
namespace Mine
section
variable {C : Cx} {f : Fm} {st : St} {G : Gd} {D : Dg} {H : Addr → Option AO} {d : Nat} {Q : V → (Addr → Option AO) → Prop}
theorem get_len {α : Type} {l : List α} {n : Nat} {x : α} (h : l[n]? = some x) : n < l.length := (List.getElem?_eq_some_iff.mp h).1
theorem toV_get {ns : List Node} {n : Nat} {k : Node} (h : ns[n]? = some k) : (ns.map Node.toV)[((n : Nat) : Int).toNat]? = some k.toV := by simp [h]
theorem sub_nodes (o : G.Ok) (hn : D.nodes.length ≤ 2 ^ 20) {n : Nat} {k : Node} (h : D.nodes[n]? = some k) : SubOk C (.raw (.ref G.an)) (.int (n : Nat)) (DH G D H) k.toV :=
  sub_H (DH_n o) (by (first | lia | omega)) (by have := get_len h; (first | lia | omega)) (toV_get h)
theorem c_node (o : G.Ok) (hn : D.nodes.length ≤ 2 ^ 20) {n : Nat} {k : Node} (h : D.nodes[n]? = some k) (q : Q k.toV (DH G D H)) : Fn C 2 (.ref 95) [G.val, .int (n : Nat)] (DH G D H) Q := by
  refine fn_plain def_node rfl (by kernel_rfl) ?_
  conv => arg 3; whnf
  conv => arg 2; arg 1; whnf
  exact ax_cons (ax1_ret (aw_sub (aw_nodes (aw_local rfl ⟨rfl, aw_local rfl ⟨_, sub_nodes o hn h, q⟩⟩)) (Nat.le_refl _)))
def lvl (G : Gd) : Node → Int
  | .leaf _ => G.tops.length
  | .br x _ => x
theorem c_level (o : G.Ok) (hn : D.nodes.length ≤ 2 ^ 20) (ht : G.tops.length = 3) {n : Nat} {k : Node} (h : D.nodes[n]? = some k) (q : Q (.int (lvl G k)) (DH G D H)) : Fn C 2 (.ref 102) [G.val, .int (n : Nat)] (DH G D H) Q := by
  refine fn_plain def_level rfl (by kernel_rfl) ?_
  conv => arg 3; whnf
  conv => arg 2; arg 1; whnf
  refine ax_cons (ax1_assign (aw_sub (aw_sub (aw_nodes (aw_local rfl ⟨rfl, aw_local rfl ⟨_, sub_nodes o hn h, aw_int ?_⟩⟩)) (Nat.le_refl _)) (Nat.le_refl _)))
  cases k with
  | leaf v =>
    refine ⟨.str "leaf", sub_tup0 (by decide) (by decide) rfl, aas_local ?_⟩
    refine ax_cons (ax1_ret (aw_ite (at_cmp (aw_local rfl (aw_str ⟨true, cmp_eq_ss, fun _ => ?_, fun e => by cases e⟩)))))
    refine aw_call keeps1_builtin (aw_builtin n_len rfl ⟨rfl, aws_cons (aw_tops (aw_local rfl ⟨rfl, aws_nil ?_⟩))⟩)
    refine fn_len_tup (by rw [List.length_map]; (first | lia | omega)) ?_
    rw [List.length_map]
    exact q
  | br x ps =>
    refine ⟨.int x, sub_tup0 (by decide) (by decide) rfl, aas_local ?_⟩
    exact ax_cons (ax1_ret (aw_ite (at_cmp (aw_local rfl (aw_str ⟨false, cmp_eq_is, fun e => (by cases e), fun _ => aw_local rfl q⟩)))))
theorem c_leaf (o : G.Ok) (hn : D.nodes.length ≤ 2 ^ 20) {v : Int} (q : Q (.int ((keepN D.nodes (.leaf v)).idxOf (.leaf v) : Nat)) (DH G { D with nodes := keepN D.nodes (.leaf v) } H)) : Fn C 3 (.ref 81) [G.val, .int v] (DH G D H) Q := by
  refine fn_plain def_leaf rfl (by kernel_rfl) ?_
  conv => arg 3; whnf
  conv => arg 2; arg 1; whnf
  refine ax_cons (ax1_ret (aw_meth (aw_local (u := G.val) rfl ⟨.ref 74, _, keep_kept, meth_inst pg_kept find_kept ty_kept rfl, ?_⟩)))
  refine aws_cons (aw_tup (aws_cons (aw_str (aws_cons (aw_local rfl (aws_nil ⟨by simp, aws_nil ?_⟩))))))
  exact (c_kept o hn (k := .leaf v) q)
end
end Mine
end

section
open PySem PySem.W PyProof.Rows PySem.Calls
set_option Elab.async false
set_option maxRecDepth 100000
set_option linter.unusedVariables false
namespace Mine
section
variable {C : Cx} {f : Fm} {st : St} {H : Addr → Option AO}

/- and, or, not as values -/
inductive AndV (C : Cx) (f : Fm) (b : Expr) (Q : V → St → Prop) (u : V) (st : St) : Prop
  | mk (c : Bool) (hc : TruthOk C u st.H c) (q1 : c = true → aw C f b Q st) (q0 : c = false → Q u st)
inductive OrV (C : Cx) (f : Fm) (b : Expr) (Q : V → St → Prop) (u : V) (st : St) : Prop
  | mk (c : Bool) (hc : TruthOk C u st.H c) (q1 : c = false → aw C f b Q st) (q0 : c = true → Q u st)
inductive NotV (C : Cx) (Q : V → St → Prop) (u : V) (st : St) : Prop
  | mk (c : Bool) (hc : TruthOk C u st.H c) (q : Q (.bool (!c)) st)
theorem aw_and {a b : Expr} {p : Pos} {Q : V → St → Prop} (h : aw C f a (AndV C f b Q) st) : aw C f (.BoolOp .And [a, b] p) Q st := by
  intro P K env A s Qc E hA hE hX R k
  refine BoolOp_and (h P K env A s _ E hA hE hX R ?_)
  rintro u v st₁ K₁ h₁ tk₁ g₁ R₁ r ⟨c, hc, q1, q0⟩
  refine hc P K₁ A _ v _ E (hA.le (Nat.zero_le _)) R₁.rh r fun tk => ?_
  cases c with
  | true =>
    refine BoolOp_one (q1 rfl P K₁ env A _ _ E hA hE hX R₁ ?_)
    intro u v st₂ K₂ h₂ tk₂ g₂ R₂ r q
    exact k u v st₂ K₂ h₂ tk₂ (g₁.trans g₂) R₂ r q
  | false => exact k u v st₁ K₁ h₁ tk g₁ R₁ r (q0 rfl)
theorem aw_or {a b : Expr} {p : Pos} {Q : V → St → Prop} (h : aw C f a (OrV C f b Q) st) : aw C f (.BoolOp .Or [a, b] p) Q st := by
  intro P K env A s Qc E hA hE hX R k
  refine BoolOp_or (h P K env A s _ E hA hE hX R ?_)
  rintro u v st₁ K₁ h₁ tk₁ g₁ R₁ r ⟨c, hc, q1, q0⟩
  refine hc P K₁ A _ v _ E (hA.le (Nat.zero_le _)) R₁.rh r fun tk => ?_
  cases c with
  | false =>
    refine BoolOp_one (q1 rfl P K₁ env A _ _ E hA hE hX R₁ ?_)
    intro u v st₂ K₂ h₂ tk₂ g₂ R₂ r q
    exact k u v st₂ K₂ h₂ tk₂ (g₁.trans g₂) R₂ r q
  | true => exact k u v st₁ K₁ h₁ tk g₁ R₁ r (q0 rfl)
theorem aw_not {a : Expr} {p : Pos} {Q : V → St → Prop} (h : aw C f a (NotV C Q) st) : aw C f (.UnaryOp .Not a p) Q st := by
  intro P K env A s Qc E hA hE hX R k
  refine wpAny_UnaryOp (h P K env A s _ E hA hE hX R ?_)
  rintro u v st₁ K₁ h₁ tk₁ g₁ R₁ r ⟨c, hc, q⟩
  exact not_of (hc P K₁ A _ v _ E (hA.le (Nat.zero_le _)) R₁.rh r fun tk => k _ _ st₁ K₁ h₁ tk g₁ R₁ (.bool _) q)

/- {} -/
theorem not_sys {P K : KM} {env : Env} {ow : Bool} {st : St} {h : Heap} (R : Rl C.w P K env ow st h) (hX : Ext C.hb P) : h.objs.size ≠ sysModules := by
  obtain ⟨oc, od, fd, osl, hl, _⟩ := (def_law (C := C)).at'
  have h1 : (245 : Nat) < h.objs.size := Heap.lt_size (Rl.ext R hX _ _ (C.X _ _ hl))
  intro e
  rw [e] at h1
  exact absurd h1 (by decide)
theorem aw_dict0 {p : Pos} {Q : V → St → Prop} (q : ∀ a, st.H a = none → a ≠ sysModules → Q (.raw (.ref a)) { st with H := hput st.H a (.dictI []) }) : aw C f (.Dict [] [] p) Q st := by
  intro P K env A s Qc E hA hE hX R k
  refine wpAny_Dict_empty ?_
  obtain ⟨R₂, e₂⟩ := R.pushH (o := { cls := .type "dict", data := .dict #[] }) (a := .dictI []) ⟨⟨rfl, rfl, rfl⟩, #[], 0, [], rfl, rfl, .nil, rfl, .nil, .nil⟩
  refine k _ _ _ K _ _ (KGe.refl P K) R₂ (.raw _) (q _ e₂ (not_sys R hX))

/- o[i] += v on a mutable list of ints -/
theorem ax1_augsub {o i v : Expr} {tp p : Pos} {Q : Fl → St → Prop}
    (h : aw C f o (fun uo st₁ => aw C f i (fun ix st₂ => ∃ a l n x, uo = .raw (.ref a) ∧ ix = .int n ∧ st₂.H a = some (.list l) ∧ 0 ≤ n ∧ n < 2 ^ 63 ∧ l[n.toNat]? = some (.int x) ∧
      aw C f v (fun uv st₃ => ∃ y, uv = .int y ∧ st₃.H a = some (.list l) ∧ Q .next { st₃ with H := hput st₃.H a (.list (l.set n.toNat (.int (x + y)))) }) st₂) st₁) st) (hd : 1 ≤ f.d)
    (hi : ∀ ov iv new, augStore i ov iv new = (do holding [new, ov, iv] (setItem ov iv new); release [new, ov, iv] []; pure .next) := by intros; rfl) : ax1 C f (.AugAssign (.Subscript o i tp) .Add v p) Q st := by
  intro P K env A s Qc E hA hE hX R k
  refine wpAny_AugAssign_SubscriptAny (h P K env A s _ E hA hE hX R ?_) hi
  intro uo vo st₁ K₁ h₁ tk₁ g₁ R₁ ro h2
  refine h2 P K₁ env A _ _ E hA hE hX R₁ ?_
  rintro ix vi st₂ K₂ h₂ tk₂ g₂ R₂ ri ⟨a, l, n, x, rfl, rfl, hH, h0, h1, hg, h3⟩
  have hlt : n.toNat < l.length := (List.getElem?_eq_some_iff.mp hg).1
  refine (sub_H (C := C) (i := n) (r := .int x) hH h0 h1 hg P K₂ A { s with heap := h₂, toks := tk₂ } vo vi _ E (hA.le hd) (fun b o e => Rl.ext R₂ hX b o e) R₂.rh (ro.mono g₂.le) ri ?_).2
  · intro w tk rw
    obtain ⟨tx, rfl⟩ := rw.int'
    refine h3 P K₂ env A { s with heap := h₂, toks := tk } _ E hA hE hX R₂ ?_
    rintro uv vv st₃ K₃ h₃ tk₃ g₃ R₃ rv ⟨y, rfl, hH', q⟩
    obtain ⟨ty, rfl⟩ := rv.int'
    refine AutoIntOps.iadd_0 ?_
    show wpAny _ _ (setItem vo vi _) _ _ _
    (first | cases ro.raw' | obtain ⟨_, rfl⟩ := ro.int' | obtain ⟨_, rfl⟩ := ro.str' | cases ro.bool' | cases ro)
    obtain ⟨⟨ob, ho, ro⟩, hP, hK⟩ := R₃.rh.objs _ _ hH'
    refine set_list (C := C) (u := .int (x + y)) h0 h1 (by (first | lia | omega)) P K₃ A _ vi _ ob _ E (hA.le hd) R₃.rh.froz ho hK ro (ri.mono g₃.le) (.int _ _) ?_
    intro h' ob' tk hs e1 ro'
    exact k _ _ _ K₃ h' tk ((g₁.trans g₂).trans g₃) (R₃.setH hH' hs e1 ro') .next q

theorem wp_mul_list {prog : Program} {w : World} {A : Around} {E : Value → Shared → Prop} {s : Shared} {l : Addr} {items : Array Value} {k : Nat} {x : Int} {u : Tok} {Q : Value → Shared → Prop}
    (hl : s.heap.get? l = some { cls := .type "list", dict := none, data := .seq items k, slots := #[] })
    (hlo : -(2 ^ 63 : Int) ≤ x) (hhi : x < 2 ^ 63) (hsz : items.size * x.toNat ≤ 2 ^ 24)
    (h : Q (.ref s.heap.objs.size) { s with heap := s.heap.push { cls := .type "list", data := .seq (List.foldl (fun x1 x2 => x1 ++ x2) #[] (List.replicate (if items.isEmpty = true then 0 else x.toNat) items)) } }) :
    wpAny (model prog w) A (binaryOp .Mult (.ref l) (.int x u)) Q E s :=
  wpAny_binaryOp_repeat_ref (T := "list") (U := "int") (by decide) ⟨_, hl, rfl⟩ (fun s' => typeIs_int s' x u) noFill_list_mul F.fills_int_mul F.slot_int_rmul repeat_list F.slot_int_index.lookup
    (call_meets F.slot_int_rmul (typeIs_int s x u) F.entry_int_rmul (F.args_int_rmul_2 _ _) (int___rmul___int_list x u l items k)
      ⟨hl, rfl, ⟨_, hl, rfl⟩, call_meets F.slot_list_mul ⟨_, hl, rfl⟩ F.entry_list_mul (F.args_list_mul_2 _ _)
        (AutoListH.list___mul___list_int_3 l items k x u (by simp [Builtin.List.listFitsIndex]; (first | lia | omega)) (by (first | lia | omega)) (by simp [Builtin.List.listTooLong, sizeLine]; (first | lia | omega)))
        ⟨hl, h⟩⟩)
/- [x] * n -/
inductive MulR (x : V) (d : Addr) (Q : V → St → Prop) (b : V) (st : St) : Prop
  | mk (n : Nat) (e : b = .int n) (hn : n ≤ 1000) (hH : st.H d = some (.list [x])) (q : ∀ c, st.H c = none → Q (.raw (.ref c)) { st with H := hput (hdel st.H d) c (.list (List.replicate n x)) })
inductive MulL (C : Cx) (f : Fm) (r : Expr) (Q : V → St → Prop) (a : V) (st : St) : Prop
  | mk (x : V) (d : Addr) (e : a = .raw (.ref d)) (q : aw C f r (MulR x d Q) st)
theorem aw_mulH {l r : Expr} {p : Pos} {Q : V → St → Prop} (h : aw C f l (MulL C f r Q) st) : aw C f (.BinOp l .Mult r p) Q st := by
  intro P K env A s Qc E hA hE hX R k
  refine wpAny_BinOp (h P K env A s _ E hA hE hX R ?_)
  rintro a va st₁ K₁ h₁ tk₁ g₁ R₁ ra ⟨x, d, rfl, h2⟩
  refine h2 P K₁ env A _ _ E hA hE hX R₁ ?_
  rintro b vb st₂ K₂ h₂ tk₂ g₂ R₂ rb ⟨n, rfl, hn, hH, q⟩
  obtain ⟨u, rfl⟩ := rb.int'
  (first | cases ra.raw' | obtain ⟨_, rfl⟩ := ra.int' | obtain ⟨_, rfl⟩ := ra.str' | cases ra.bool' | cases ra)
  obtain ⟨⟨ob, ho, ws, m, rfl, rs⟩, _⟩ := R₂.rh.objs _ _ hH
  obtain ⟨v, ev, rv⟩ := rs.one
  obtain ⟨ws⟩ := ws
  simp only at ev
  subst ev
  have el : (List.foldl (fun x1 x2 => x1 ++ x2) #[] (List.replicate (if ([v].toArray : Array Value).isEmpty = true then 0 else ((n : Nat) : Int).toNat) [v].toArray)) = (List.replicate n v).toArray := by
    have : ∀ (n : Nat) (acc : Array Value), (List.foldl (fun x1 x2 => x1 ++ x2) acc (List.replicate n [v].toArray)) = acc ++ (List.replicate n v).toArray := by
      intro n
      induction n with
      | zero => intro acc; simp
      | succ n ih => intro acc; rw [List.replicate_succ, List.foldl_cons, ih, List.replicate_succ]; apply Array.toList_inj.mp; simp
    have := this n #[]
    simpa using this
  refine wp_mul_list ho (by (first | lia | omega)) (by (first | lia | omega)) (by rw [show ({ toList := [v] } : Array Value).size = 1 from rfl]; (first | lia | omega)) ?_
  rw [el]
  have R₃ : Rl C.w P K₂ env f.ow { st₂ with H := hdel st₂.H d } h₂ := R₂.forget (fun _ _ e => e) fun a o e => by
    by_cases q : a = d
    · subst q; simp only [hdel_self] at e; cases e
    · simp only [hdel_ne q] at e; exact e
  obtain ⟨R₄, e₄⟩ := R₃.pushH (o := { cls := .type "list", data := .seq (List.replicate n v).toArray }) (a := .list (List.replicate n x)) ⟨_, 0, rfl, by
    have : ∀ n : Nat, Reps C.w K₂ (List.replicate n x) (List.replicate n v) := fun n => by
      induction n with
      | zero => exact .nil
      | succ n ih => exact .cons rv ih
    simpa using this n⟩
  refine k _ _ _ K₂ _ _ (g₁.trans g₂) R₄ (.raw _) (q _ ?_)
  exact (R₂.dead (get_size h₂)).2.2.1

/- tuples added -/
structure AddR (us vs : List V) (Q : V → St → Prop) (b : V) (st : St) : Prop where
  e : b = .tup vs
  q : Q (.tup (us ++ vs)) st
structure AddL (C : Cx) (f : Fm) (us vs : List V) (r : Expr) (Q : V → St → Prop) (a : V) (st : St) : Prop where
  e : a = .tup us
  q : aw C f r (AddR us vs Q) st
theorem bin_tupadd {us vs : List V} (h1 : us.length + vs.length ≤ 1000) : ∀ {l r : Expr} {p : Pos} {Q : V → St → Prop}, aw C f l (AddL C f us vs r Q) st → aw C f (.BinOp l .Add r p) Q st := by
  intro l r p Q h P K env A s Qc E hA hE hX R k
  refine wpAny_BinOp (h P K env A s _ E hA hE hX R ?_)
  rintro a va st₁ K₁ h₁ tk₁ g₁ R₁ ra ⟨rfl, h2⟩
  refine h2 P K₁ env A _ _ E hA hE hX R₁ ?_
  rintro b vb st₂ K₂ h₂ tk₂ g₂ R₂ rb ⟨rfl, q⟩
  replace ra := ra.mono g₂.le
  have G := g₁.trans g₂
  have la := ra; have lb := rb
  obtain ⟨a, o, ws, m, rfl, hk, hc, hd, rs⟩ := ra.tup'
  obtain ⟨b, o', ws', m', rfl, hk', hc', hd', rs'⟩ := rb.tup'
  have ho := R₂.rh.froz _ _ hk
  have ho' := R₂.rh.froz _ _ hk'
  obtain ⟨cls, dd, data, sl⟩ := o
  obtain ⟨cls', dd', data', sl'⟩ := o'
  simp only at hc hd hc' hd'
  subst hc hd hc' hd'
  have n1 := rs.length
  have n2 := rs'.length
  have fin : ∀ {S : PySem.Spec}, Meets (Builtin.«tuple.__add__» ⟨[.ref a, .ref b], []⟩) S → S A (wants Qc E) { s with heap := h₂, toks := tk₂ } → wpAny (MM C.w) A (binaryOp .Add (.ref a) (.ref b)) Qc E { s with heap := h₂, toks := tk₂ } := fun g z =>
    concat_meets ⟨_, ho, rfl⟩ ⟨_, ho', rfl⟩ noFill_tuple_add seq_tuple_add PySem.F.slot_tuple_add PySem.F.entry_tuple_add (PySem.F.args_tuple_add_2 _ _) g z
  by_cases e1 : ws.toArray.isEmpty = true
  · refine fin (tuple_addW0 a b ws.toArray ws'.toArray m m' dd dd' sl sl' e1) ⟨ho, ho', ?_⟩
    have : us = [] := by
      have e2 : ws = [] := List.isEmpty_iff.mp (by simpa using e1)
      exact List.eq_nil_of_length_eq_zero (n1.trans (by rw [e2]; rfl))
    subst this
    exact k _ _ st₂ K₂ h₂ _ G R₂ lb (by simpa using q)
  · by_cases e2 : ws'.toArray.isEmpty = true
    · refine fin (tuple_addW1 a b ws.toArray ws'.toArray m m' dd dd' sl sl' e1 e2) ⟨ho, ho', ?_⟩
      have : vs = [] := by
        have e3 : ws' = [] := List.isEmpty_iff.mp (by simpa using e2)
        exact List.eq_nil_of_length_eq_zero (n2.trans (by rw [e3]; rfl))
      subst this
      exact k _ _ st₂ K₂ h₂ _ G R₂ la (by simpa using q)
    · refine fin (tuple_addW2 a b ws.toArray ws'.toArray m m' dd dd' sl sl' e1 e2 (by simp only [List.size_toArray]; rw [← n1, ← n2]; exact Nat.le_trans h1 (by decide))) ⟨ho, ho', ?_⟩
      have e : ws.toArray ++ ws'.toArray = (ws ++ ws').toArray := by simp
      rw [e]
      obtain ⟨R₃, g₃⟩ := R₂.pushK (o := { cls := .type "tuple", data := .seq (ws ++ ws').toArray }) rfl
      exact k _ _ st₂ _ _ _ (G.trans g₃) R₃ (.tup KM.put_self rfl rfl ((rs.append rs').mono g₃.le)) q

/- leaf == leaf -/
theorem cmp_eq_leaf {i : Int} : CmpOk C .Eq (Node.leaf i).toV (Node.leaf i).toV H true := by
  intro P K A s va vb Qc E hA hs R ra rb q
  obtain ⟨a, rfl⟩ := (kkN C.w).ref (k := .leaf i) ra
  obtain ⟨b, rfl⟩ := (kkN C.w).ref (k := .leaf i) rb
  replace ra := ra.mono (K' := s.heap.get?) fun a o e => R.froz a o e
  replace rb := rb.mono (K' := s.heap.get?) fun a o e => R.froz a o e
  obtain ⟨o, n, t, u, h1, hc, hd⟩ := leaf_at ra
  obtain ⟨o', n', t', u', k1, kc, kd⟩ := leaf_at rb
  have hx : TupAt s.heap a _ := ⟨_, _, h1, hc, hd⟩
  have hy : TupAt s.heap b _ := ⟨_, _, k1, kc, kd⟩
  have hu := hA.u
  show wpAny _ _ (richCompare .Eq (.ref a) (.ref b)) _ _ _
  exact wpAny_richCompare_same_room (op := .Eq) hx.typeIs hy.typeIs F.slot_tuple_eq
      (wpAny_call_entry F.slot_tuple_eq hx.typeIs F.entry_tuple_eq (tup_eq_tree (k := 1) (r := true) hx hy (.same (espec_of_eq espec_str (decide_eq_true rfl)) (.same (espec_of_eq espec_int (decide_eq_true rfl)) .nil)) (by show A.units + 1 + 1 < cLine; (first | lia | omega)) ⟨_, rfl, (fun e => nomatch e), q s.toks⟩) (F.args_tuple_eq_2 _ _)) (by (first | lia | omega))
end
end Mine
end

section
open PySem PySem.W PyProof.Rows PySem.Calls
set_option Elab.async false
set_option maxRecDepth 100000
set_option linter.unusedVariables false
namespace Mine
section
variable {prog : Program} {w : World} {A : Around} {E : Value → Shared → Prop}
theorem wp_draw_list {it l : Addr} {items : Array Value} (hne : l ≠ it) : ∀ (n i : Nat) (s : Shared) (Q : List Value → Shared → Prop), s.heap.IsListIter it l i → s.heap.IsList l items → i + n ≤ items.size →
    (∀ h', h'.IsListIter it l (i + n) → Heap.SameBut it s.heap h' → Q ((items.toList.drop i).take n) { s with heap := h' }) → wpAny (model prog w) A (draw (.ref it) n) Q E s
  | 0, i, s, Q, hit, _, _, hQ => by
    show wpAny _ _ (pure []) Q E s
    exact wpAny_pure (by simpa using hQ s.heap hit (Heap.SameBut.refl ..))
  | n + 1, i, s, Q, hit, ht, hle, hQ => by
    have hlt : i < items.size := by (first | lia | omega)
    show wpAny _ _ (pyNext (.ref it) >>= _) Q E s
    refine wpAny_bind (wpAny_pyNext_list_item hit ht (x := items[i]) (by simp [hlt]) fun h₁ hit₁ hs₁ => ?_)
    refine wpAny_bind (wpAny_holding (wp_draw_list hne n (i + 1) _ _ hit₁ (ht.extBut hs₁.extBut hne) (by (first | lia | omega)) fun h₂ hit₂ hs₂ => wpAny_pure ?_))
    have hd : items.toList.drop i = items[i] :: items.toList.drop (i + 1) := by simp [List.drop_eq_getElem_cons, hlt]
    have := hQ h₂ (by rw [show i + (n + 1) = i + 1 + n by (first | lia | omega)]; exact hit₂) (hs₁.trans hs₂)
    rw [hd, List.take_succ_cons] at this
    exact this
theorem wp_unpackItems_list {s : Shared} {t : Addr} {items : Array Value} {Q : List Value → Shared → Prop} (hh : A.handled = none) (ht : s.heap.IsList t items)
    (hQ : ∀ h', Heap.ExtBut s.heap.objs.size s.heap h' → Q items.toList { s with heap := h' }) : wpAny (model prog w) A (unpackItems (.ref t) items.size none) Q E s := by
  have hlt : t ≠ s.heap.objs.size := by obtain ⟨o, ho, _⟩ := ht; exact Nat.ne_of_lt (Heap.lt_size ho)
  unfold unpackItems
  refine wpAny_bind ?_
  · unfold notIterableAtAll
    refine wpAny_bind (wpAny_specialOf ht.typeIs PySem.slot_list_iter.lookup ?_)
    refine wpAny_pure ?_
    simp only [Bool.false_eq_true, if_false]
    refine wpAny_bind (wpAny_holding (wpAny_pyIter_list ht ?_))
    refine wpAny_bind (wpAny_holding (wp_draw_list hlt items.size 0 _ _ ⟨_, Heap.get?_push_size _ rfl, rfl, rfl⟩ (ht.push _) (by (first | lia | omega)) fun h₁ hit₁ hs₁ => ?_))
    have hall : List.take items.size (List.drop 0 items.toList) = items.toList := by
      rw [List.drop_zero]; exact List.take_of_length_le (by simp)
    rw [hall]
    rw [if_neg (by simp)]
    have ht₁ : h₁.IsList t items := (ht.push _).extBut hs₁.extBut hlt
    refine wpAny_bind (wpAny_holding (wpAny_pyNext_list_end hh hit₁ ht₁ (by simp) fun h₂ he₂ => ?_))
    simp only [Option.isSome_none, Bool.false_eq_true, if_false]
    refine wpAny_pure (hQ h₂ fun b o hb e => he₂ b o hb (hs₁.extBut b o hb (Heap.get?_push_of_some _ e)))
end
section
variable {C : Cx} {f : Fm} {st : St} {H : Addr → Option AO}
theorem aas_tupL {ts : List Expr} {n : Nat} {p : Pos} {us : List V} {Q : St → Prop} (h : aasL C f ts us Q st) (hn : ts.length = us.length) (ha : ∀ env, assignEach ts env = ts.map fun t => (false, assign t env) := by intro _; rfl) : aas C f (.Tuple ts n p) (.lst us) Q st := by
  intro P K env A s v Qc E hA hE hX R r k
  obtain ⟨a, o, ws, n', rfl, hk, hc, hd, rs⟩ := r.lst'
  have hl : s.heap.IsList a ws.toArray := ⟨o, R.rh.froz _ _ hk, hc, n', hd⟩
  rw [arm_assign_Tuple]
  refine wpAny_bind (wpAny_standAt ?_)
  have e1 : (assignEach ts env).length = ws.toArray.size := by rw [ha]; simp [hn, rs.length]
  have e2 : (assignEach ts env).findIdx? (·.1) = none := by rw [ha]; simp
  unfold unpack
  rw [e1, e2]
  refine wpAny_bind (wpAny_holding (wp_unpackItems_list hA.hh hl fun h' he => ?_))
  rw [ha, List.map_map]
  refine aasL_sound h P K env A _ ws Qc E hA hE hX (R.grow fun b o e => he b o (Nat.ne_of_lt (Heap.lt_size e)) e) rs ?_
  intro st₁ K₁ h₁ tk₁ g₁ R₁ q
  exact k st₁ K₁ h₁ tk₁ g₁ R₁ q
inductive PairQ (x y : Str) (Q : Fl → St → Prop) (us : List V) (st : St) : Prop
  | mk (u v : V) (e : us = [u, v]) (q : Q .next { st with m := mput (mput st.m y v) x u })
/-- two locals at once, from a display: the stores are exchanged -/
theorem ax1_pair {x y : Str} {xp yp tp vp p : Pos} {n m : Nat} {a b : Expr} {Q : Fl → St → Prop} (hxy : x ≠ y)
    (h : aws C f [a, b] (PairQ x y Q) st)
    (hs : ∀ env, swapsWithSole [.Tuple [.Name x xp, .Name y yp] n tp] (.Tuple [a, b] m vp) p.line env = pure false := by intro _; rfl)
    (hw : ∀ env, EnvOk f env → swappedStores [.Tuple [.Name x xp, .Name y yp] n tp] (.Tuple [a, b] m vp) env = pure (some [x, y])) (hkx : f.sc.names.lookup x = some .local := by rfl) (hky : f.sc.names.lookup y = some .local := by rfl) :
    ax1 C f (.Assign [.Tuple [.Name x xp, .Name y yp] n tp] (.Tuple [a, b] m vp) p) Q st := by
  intro P K env A s Qc E hA hE hX R k
  rw [exec_Assign_arm]
  refine wpAny_bind (wpAny_standAt ?_)
  rw [hs]
  refine wpAny_bind (wpAny_pure ?_)
  rw [if_neg (by decide)]
  have h2 : aw C f (.Tuple [a, b] m vp) (fun u st₁ => ∃ u' v', u = .tup [u', v'] ∧ Q .next { st₁ with m := mput (mput st₁.m y v') x u' }) st :=
    aw_tup (fun pos => (h pos).mono fun us st₁ ⟨u', v', e, q⟩ => ⟨by rw [e]; simp, u', v', by rw [e], q⟩)
  refine wpAny_bind (h2 P K env A s _ E hA hE hX R ?_)
  rintro u v st₁ K₁ h₁ tk₁ g₁ R₁ r ⟨u', v', rfl, q⟩
  rw [hw env hE]
  refine wpAny_bind (wpAny_pure ?_)
  obtain ⟨a', o, ws, n', rfl, hk, hc, hd, rs⟩ := r.tup'
  obtain ⟨v1, v2, rfl, r1, r2⟩ := rs.two
  have ht : h₁.IsTuple a' [v1, v2].toArray := ⟨o, R₁.rh.froz _ _ hk, hc, n', hd⟩
  show wpAny _ _ (do rule "assign.swapped-stores"; let items ← unpackItems (.ref a') 2 none; assignInOrder ([y, x].map fun n => bindName env n) items.reverse; pure Flow.next : Sem Flow) _ _ _
  refine wpAny_bind (wpAny_rule (wpAny_bind ?_))
  have hu : ∀ (Qu : List Value → Shared → Prop) (Eu : Value → Shared → Prop), (∀ h', Heap.ExtBut h₁.objs.size h₁ h' → Qu [v1, v2] { s with heap := h', toks := tk₁ }) → wpAny (MM C.w) A (unpackItems (.ref a') 2 none) Qu Eu { s with heap := h₁, toks := tk₁ } := fun Qu Eu hq =>
    wpAny_unpackItems_tuple (s := { s with heap := h₁, toks := tk₁ }) (items := [v1, v2].toArray) hA.hh ht hq
  refine hu _ _ fun h' he => ?_
  have R₂ : Rl C.w P K₁ env f.ow st₁ h' := R₁.grow fun b o e => he b o (Nat.ne_of_lt (Heap.lt_size e)) e
  have hkx' : env.kindOf x = some .local := by rw [hE.kindOf]; exact hkx
  have hky' : env.kindOf y = some .local := by rw [hE.kindOf]; exact hky
  have hcl : (env.scope.kind == .class || (env.scope.kind == .module && env.locals != env.globals)) = false := by rw [hE.kind]; rfl
  show wpAny _ _ (assignInOrder [bindName env y, bindName env x] [v2, v1] >>= _) _ _ _
  refine wpAny_bind ?_
  obtain ⟨m', nn, hh⟩ := R₂.ns
  refine wpAny_assignInOrder_more (wpAny_bindName (wpAny_storeName_local hky' nn (fun h₃ hn₃ hs₃ => ?_) hcl))
  have R₃ := R₂.local hh hky' r2 hn₃ hs₃
  obtain ⟨m'', nn', hh'⟩ := R₃.ns
  refine wpAny_assignInOrder_more (wpAny_bindName (wpAny_storeName_local hkx' nn' (fun h₄ hn₄ hs₄ => ?_) hcl))
  have R₄ := R₃.local hh' hkx' r1 hn₄ hs₄
  exact wpAny_pure (wpAny_pure (k _ _ _ K₁ h₄ _ g₁ R₄ .next q))
inductive SlcQ (Q : V → St → Prop) (o a b : V) (st : St) : Prop
  | mk (l : List V) (i j : Int) (e : o = .lst l) (n : l.length ≤ 1000) (ea : a = .int i) (eb : b = .int j) (h0 : 0 ≤ i) (h1 : i ≤ j) (h2 : j ≤ l.length) (q : Q (.lst ((l.drop i.toNat).take (j.toNat - i.toNat))) st)
def slc2 (C : Cx) (f : Fm) (hi : Expr) (Q : V → St → Prop) (o a : V) (st : St) : Prop := aw C f hi (SlcQ Q o a) st
def slc1 (C : Cx) (f : Fm) (lo hi : Expr) (Q : V → St → Prop) (o : V) (st : St) : Prop := aw C f lo (slc2 C f hi Q o) st
/-- l[i:j], a new list that is never changed -/
theorem aw_slice {v lo hi : Expr} {p sp : Pos} {Q : V → St → Prop}
    (h : aw C f v (slc1 C f lo hi Q) st)
    (ht : ∀ o r, letTemporaryGo v o r = pure () := by intro _ _; rfl) : aw C f (.Subscript v (.Slice (some lo) (some hi) none sp) p) Q st := by
  intro P K env A s Qc E hA hE hX R k
  refine wpAny_Subscript_list_slice (h P K env A s _ E hA hE hX R ?_) ht
  intro o vo st₁ K₁ h₁ tk₁ g₁ R₁ ro h2
  refine wpAny_evalPart_some (h2 P K₁ env A _ _ E hA hE hX R₁ ?_)
  intro a va st₂ K₂ h₂ tk₂ g₂ R₂ ra h3
  refine wpAny_evalPart_some (h3 P K₂ env A _ _ E hA hE hX R₂ ?_)
  rintro b vb st₃ K₃ h₃ tk₃ g₃ R₃ rb ⟨l, i, j, rfl, hn, rfl, rfl, h0, hij, hj, q⟩
  obtain ⟨ti, rfl⟩ := ra.int'
  obtain ⟨tj, rfl⟩ := rb.int'
  replace ro := ro.mono (g₂.trans g₃).le
  obtain ⟨d, o, ws, n', rfl, hk, hc, hd, rs⟩ := ro.lst'
  have hl : h₃.IsList d ws.toArray := ⟨o, R₃.rh.froz _ _ hk, hc, n', hd⟩
  have hlen := rs.length
  refine ⟨d, ws.toArray, some i, some j, rfl, hl, by rw [List.size_toArray, ← hlen]; exact Nat.le_trans hn (by decide), .int _ _, .int _ _, ?_⟩
  obtain ⟨i, rfl⟩ := Int.eq_ofNat_of_zero_le h0
  obtain ⟨j, rfl⟩ := Int.eq_ofNat_of_zero_le (Int.le_trans h0 hij)
  rw [slicePick_run _ _ _ (by rw [List.size_toArray, ← hlen]; (first | lia | omega)) (by (first | lia | omega))]
  have R₄ := R₃.push { cls := .type "slice", data := .fields #[.int (i : Int) ti, .int (j : Int) tj, .none] }
  obtain ⟨R₅, g₅⟩ := R₄.pushK (o := { cls := .type "list", data := .seq ((ws.drop i).take (j - i)).toArray }) rfl
  have rr : ∀ {us : List V} {vs : List Value}, Reps C.w K₃ us vs → ∀ n, Reps C.w K₃ (us.drop n) (vs.drop n) := by
    intro us vs r n
    induction n generalizing us vs with
    | zero => simpa using r
    | succ n ih => cases r with
      | nil => simpa using Reps.nil
      | cons h t => simpa using ih t
  have rt : ∀ {us : List V} {vs : List Value}, Reps C.w K₃ us vs → ∀ n, Reps C.w K₃ (us.take n) (vs.take n) := by
    intro us vs r n
    induction n generalizing us vs with
    | zero => simpa using Reps.nil
    | succ n ih => cases r with
      | nil => simpa using Reps.nil
      | cons h t => simpa using Reps.cons h (ih t)
  have hsz := Heap.size_push h₃ { cls := .type "slice", data := .fields #[.int (i : Int) ti, .int (j : Int) tj, .none] }
  rw [hsz] at R₅ g₅
  exact k _ _ st₃ _ _ _ (((g₁.trans g₂).trans g₃).trans g₅) R₅ (.lst KM.put_self rfl rfl ((rt (rr rs i) (j - i)).mono g₅.le)) (by simpa using q)
end
end Mine
end

section
open PySem PySem.W PyProof.Rows PySem.Calls
set_option Elab.async false
set_option maxRecDepth 100000
set_option linter.unusedVariables false
namespace Mine
def kasPure {α : Type} (c : Nat → Nat → Bool) : KasT α → α
  | .ret a => a
  | .ask i j k => kasPure c (k (c i j))
def asksB {α : Type} (n : Nat) : KasT α → Bool
  | .ret _ => true
  | .ask i j k => decide (i < n) && decide (j < n) && asksB n (k true) && asksB n (k false)
theorem kasPure_congr {α : Type} {n : Nat} {c c' : Nat → Nat → Bool} (h : ∀ i j, i < n → j < n → c i j = c' i j) : ∀ t : KasT α, asksB n t = true → kasPure c t = kasPure c' t
  | .ret _, _ => rfl
  | .ask i j k, e => by
    unfold asksB at e
    simp only [Bool.and_eq_true, decide_eq_true_eq] at e
    unfold kasPure
    rw [h i j e.1.1.1 e.1.1.2]
    cases c' i j with
    | true => exact kasPure_congr h _ e.1.2
    | false => exact kasPure_congr h _ e.2
theorem kas_pure {α : Type} {n : Nat} {c : Nat → Nat → Bool} {cmp : Nat → Nat → (Bool → Shared → Prop) → Shared → Prop} {I : Shared → Prop} (h : ∀ i j (K : Bool → Shared → Prop) s, i < n → j < n → I s → (∀ s', I s' → K (c i j) s') → cmp i j K s) {Q : α → Shared → Prop} :
    ∀ (t : KasT α) (s : Shared), asksB n t = true → I s → (∀ s', I s' → Q (kasPure c t) s') → t.kasWp cmp Q s
  | .ret a, s, _, hi, q => q s hi
  | .ask i j k, s, e, hi, q => by
    unfold asksB at e
    simp only [Bool.and_eq_true, decide_eq_true_eq] at e
    refine h i j _ s e.1.1.1 e.1.1.2 hi fun s' hi' => ?_
    unfold kasPure at q
    cases hc : c i j with
    | true => rw [hc] at q; exact kas_pure h _ s' e.1.2 hi' q
    | false => rw [hc] at q; exact kas_pure h _ s' e.2 hi' q
theorem asks2 : asksB 2 (kas_sort 2) = true := by decide +kernel
theorem asks3 : asksB 3 (kas_sort 3) = true := by decide +kernel
def tab (b01 b02 b10 b12 b20 b21 : Bool) (i j : Nat) : Bool := match i, j with
  | 0, 1 => b01 | 0, 2 => b02 | 1, 0 => b10 | 1, 2 => b12 | 2, 0 => b20 | 2, 1 => b21 | _, _ => false
def okAll (c : Nat → Nat → Bool) : List Nat → Bool
  | i :: j :: r => (c i j || !(c j i)) && okAll c (j :: r)
  | _ => true
def permB (l : List Nat) (n : Nat) : Bool := if n = 2 then [[0, 1], [1, 0]].contains l else [[0, 1, 2], [0, 2, 1], [1, 0, 2], [1, 2, 0], [2, 0, 1], [2, 1, 0]].contains l
theorem sort2 : ∀ b01 b10 : Bool, (permB (kasPure (tab b01 false b10 false false false) (kas_sort 2)).toList 2 && okAll (tab b01 false b10 false false false) (kasPure (tab b01 false b10 false false false) (kas_sort 2)).toList) = true := by decide +kernel
def consB (c : Nat → Nat → Bool) : Bool := (List.range 3).all fun i => (List.range 3).all fun j => (!(c i j) || !(c j i)) && (List.range 3).all fun k => (!(c i j) || !(c j k) || c i k) && (c j i || c k j || !(c k i))
theorem sort3 : ∀ b01 b02 b10 b12 b20 b21 : Bool, consB (tab b01 b02 b10 b12 b20 b21) = true → (permB (kasPure (tab b01 b02 b10 b12 b20 b21) (kas_sort 3)).toList 3 && okAll (tab b01 b02 b10 b12 b20 b21) (kasPure (tab b01 b02 b10 b12 b20 b21) (kas_sort 3)).toList) = true := by decide +kernel
def lexlt (p q : Int × Int) : Bool := if p.1 = q.1 then decide (p.2 < q.2) else decide (p.1 < q.1)
theorem lex_yes {p q : Int × Int} (h : lexlt p q = true) : p.1 ≤ q.1 := by
  unfold lexlt at h; split at h
  · (first | lia | omega)
  · have := of_decide_eq_true h; (first | lia | omega)
theorem lex_no {p q : Int × Int} (h : lexlt q p = false) : p.1 ≤ q.1 := by
  unfold lexlt at h; split at h
  · (first | lia | omega)
  · have := of_decide_eq_false h; (first | lia | omega)
theorem lex_cons {p q r : Int × Int} : ((!(lexlt p q) || !(lexlt q r) || lexlt p r) && (lexlt q p || lexlt r q || !(lexlt r p)) && (!(lexlt p q) || !(lexlt q p)) && !(lexlt p p)) = true := by
  have key : ∀ a b : Int × Int, lexlt a b = true ↔ (a.1 < b.1 ∨ (a.1 = b.1 ∧ a.2 < b.2)) := by
    intro a b; unfold lexlt; split <;> simp <;> (first | lia | omega)
  have kn : ∀ a b : Int × Int, (lexlt a b = false) ↔ ¬ (a.1 < b.1 ∨ (a.1 = b.1 ∧ a.2 < b.2)) := by
    intro a b; rw [← key a b]; simp
  simp only [Bool.and_eq_true, Bool.or_eq_true, Bool.not_eq_true', key, kn]
  refine ⟨⟨⟨?_, ?_⟩, ?_⟩, ?_⟩ <;> (first | lia | omega)
def cOf (l : List (Int × Int)) (i j : Nat) : Bool := lexlt (l.getD i (0, 0)) (l.getD j (0, 0))
def sorted' (l : List (Int × Int)) : List Nat := (kasPure (cOf l) (kas_sort l.length)).toList
theorem ok_le {l : List (Int × Int)} {c : Nat → Nat → Bool} (hc : ∀ i j, i < l.length → j < l.length → c i j = cOf l i j) : ∀ {p : List Nat}, (∀ i ∈ p, i < l.length) → okAll c p = true → (p.map fun i => l.getD i (0, 0)).Pairwise (·.1 ≤ ·.1)
  | [], _, _ => .nil
  | [i], _, _ => by simp
  | i :: j :: r, hp, h => by
    unfold okAll at h
    simp only [Bool.and_eq_true, Bool.or_eq_true, Bool.not_eq_true'] at h
    have ih := ok_le hc (p := j :: r) (fun k m => hp k (.tail _ m)) h.2
    have hi := hp i (.head _)
    have hj := hp j (.tail _ (.head _))
    have e : (l.getD i (0, 0)).1 ≤ (l.getD j (0, 0)).1 := by
      rcases h.1 with q | q
      · rw [hc i j hi hj] at q; exact lex_yes q
      · rw [hc j i hj hi] at q; exact lex_no q
    rw [List.map_cons]
    refine List.pairwise_cons.mpr ⟨fun a ha => ?_, ih⟩
    rw [List.map_cons] at ha ih
    rcases List.mem_cons.mp ha with rfl | ha
    · exact e
    · exact Int.le_trans e ((List.pairwise_cons.mp ih).1 a ha)
theorem cOf_self {l : List (Int × Int)} {i : Nat} : cOf l i i = false := by
  unfold cOf lexlt; simp
theorem sorted_ok {l : List (Int × Int)} (h2 : 2 ≤ l.length) (h3 : l.length ≤ 3) : (sorted' l).Perm (List.range l.length) ∧ ((sorted' l).map fun i => l.getD i (0, 0)).Pairwise (·.1 ≤ ·.1) := by
  have h : l.length = 2 ∨ l.length = 3 := by (first | lia | omega)
  unfold sorted'
  rcases h with h | h
  · have hc : ∀ i j, i < 2 → j < 2 → cOf l i j = tab (cOf l 0 1) false (cOf l 1 0) false false false i j := by
      intro i j hi hj
      have : (i = 0 ∨ i = 1) ∧ (j = 0 ∨ j = 1) := by (first | lia | omega)
      obtain ⟨rfl | rfl, rfl | rfl⟩ := this <;> first | rfl | exact cOf_self
    rw [h, kasPure_congr hc _ asks2]
    have := sort2 (cOf l 0 1) (cOf l 1 0)
    rw [Bool.and_eq_true] at this
    obtain ⟨a, b⟩ := this
    generalize (kasPure (tab (cOf l 0 1) false (cOf l 1 0) false false false) (kas_sort 2)).toList = p at a b ⊢
    have hp : p.Perm [0, 1] := by
      simp [permB] at a
      rcases a with rfl | rfl <;> decide
    exact ⟨hp, ok_le (fun i j hi hj => (hc i j (h ▸ hi) (h ▸ hj)).symm) (fun i m => by have := hp.mem_iff.mp m; simp at this; (first | lia | omega)) b⟩
  · have hc : ∀ i j, i < 3 → j < 3 → cOf l i j = tab (cOf l 0 1) (cOf l 0 2) (cOf l 1 0) (cOf l 1 2) (cOf l 2 0) (cOf l 2 1) i j := by
      intro i j hi hj
      have : (i = 0 ∨ i = 1 ∨ i = 2) ∧ (j = 0 ∨ j = 1 ∨ j = 2) := by (first | lia | omega)
      obtain ⟨rfl | rfl | rfl, rfl | rfl | rfl⟩ := this <;> first | rfl | exact cOf_self
    have hcons : consB (tab (cOf l 0 1) (cOf l 0 2) (cOf l 1 0) (cOf l 1 2) (cOf l 2 0) (cOf l 2 1)) = true := by
      unfold consB
      simp only [List.all_eq_true, List.mem_range, Bool.and_eq_true]
      intro i hi j hj
      have hij : ∀ k, _ := fun k : Nat => lex_cons (p := l.getD i (0, 0)) (q := l.getD j (0, 0)) (r := l.getD k (0, 0))
      simp only [Bool.and_eq_true] at hij
      refine ⟨?_, fun k hk => ⟨?_, ?_⟩⟩
      · rw [← hc i j hi hj, ← hc j i hj hi]; exact (hij 0).1.2
      · rw [← hc i j hi hj, ← hc j k hj hk, ← hc i k hi hk]; exact (hij k).1.1.1
      · rw [← hc j i hj hi, ← hc k j hk hj, ← hc k i hk hi]; exact (hij k).1.1.2
    rw [h, kasPure_congr hc _ asks3]
    have := sort3 _ _ _ _ _ _ hcons
    rw [Bool.and_eq_true] at this
    obtain ⟨a, b⟩ := this
    generalize (kasPure (tab (cOf l 0 1) (cOf l 0 2) (cOf l 1 0) (cOf l 1 2) (cOf l 2 0) (cOf l 2 1)) (kas_sort 3)).toList = p at a b ⊢
    have hp : p.Perm [0, 1, 2] := by
      simp [permB] at a
      rcases a with rfl | rfl | rfl | rfl | rfl | rfl <;> decide
    exact ⟨hp, ok_le (fun i j hi hj => (hc i j (h ▸ hi) (h ▸ hj)).symm) (fun i m => by have := hp.mem_iff.mp m; simp at this; (first | lia | omega)) b⟩
def sortP (l : List (Int × Int)) : List (Int × Int) := if l.length < 2 then l else (sorted' l).map fun i => l.getD i (0, 0)
theorem range_getD {l : List (Int × Int)} : (List.range l.length).map (fun i => l.getD i (0, 0)) = l := by
  apply List.ext_getElem
  · simp
  · intro i h1 h2; simp at h1; simp [h1]
theorem sortP_ok {l : List (Int × Int)} (h3 : l.length ≤ 3) : (sortP l).Perm l ∧ (sortP l).Pairwise (·.1 ≤ ·.1) := by
  unfold sortP
  split
  · rename_i h
    refine ⟨List.Perm.refl _, ?_⟩
    match l, h with
    | [], _ => exact .nil
    | [x], _ => simp
  · rename_i h
    obtain ⟨a, b⟩ := sorted_ok (by (first | lia | omega)) h3
    refine ⟨?_, b⟩
    have := a.map fun i => l.getD i (0, 0)
    rwa [range_getD] at this
end Mine
end

section
open PySem PySem.W PyProof.Rows PySem.Calls
set_option Elab.async false
set_option maxRecDepth 100000
set_option linter.unusedVariables false
namespace Mine
section
variable {prog : Program} {w : World} {A : Around} {E : Value → Shared → Prop} {s : Shared}
/-- the tuple of two ints at v -/
def PairAt (h : Heap) (p : Int × Int) (v : Value) : Prop := ∃ a o n t u, v = .ref a ∧ h.get? a = some o ∧ o.cls = .type "tuple" ∧ o.data = .seq [.int p.1 t, .int p.2 u].toArray n
theorem PairAt.keeps {h h' : Heap} {p : Int × Int} {v : Value} (x : PairAt h p v) (k : ∀ a o, h.get? a = some o → h'.get? a = some o ∨ o.cls = .type "list") : PairAt h' p v := by
  obtain ⟨a, o, n, t, u, e, ho, hc, hd⟩ := x
  refine ⟨a, o, n, t, u, e, (k a o ho).resolve_right fun q => ?_, hc, hd⟩
  rw [hc] at q; simp at q
inductive PairsAt (h : Heap) : List (Int × Int) → List Value → Prop
  | nil : PairsAt h [] []
  | cons {p v ps vs} : PairAt h p v → PairsAt h ps vs → PairsAt h (p :: ps) (v :: vs)
theorem PairsAt.keeps {h h' : Heap} {ps : List (Int × Int)} {vs : List Value} (x : PairsAt h ps vs) (k : ∀ a o, h.get? a = some o → h'.get? a = some o ∨ o.cls = .type "list") : PairsAt h' ps vs := by
  induction x with
  | nil => exact .nil
  | cons a _ ih => exact .cons (a.keeps k) ih
theorem PairsAt.length {h : Heap} {ps : List (Int × Int)} {vs : List Value} (x : PairsAt h ps vs) : ps.length = vs.length := by
  induction x with
  | nil => rfl
  | cons _ _ ih => simp [ih]
theorem PairsAt.get {h : Heap} {ps : List (Int × Int)} {vs : List Value} (x : PairsAt h ps vs) : ∀ {i : Nat}, i < ps.length → PairAt h (ps.getD i (0, 0)) (vs.getD i .none) := by
  induction x with
  | nil => intro i hi; simp at hi
  | cons a _ ih =>
    intro i hi
    cases i with
    | zero => simpa using a
    | succ i => simpa using ih (by simpa using hi)
theorem PairsAt.kat {h : Heap} {ps : List (Int × Int)} {vs : List Value} (x : PairsAt h ps vs) : ∃ fs : List Value, KatTups h vs fs ∧ fs.length = vs.length ∧ ∀ v ∈ fs, ∃ i t, v = .int i t := by
  induction x with
  | nil => exact ⟨[], .nil, rfl, fun _ m => by cases m⟩
  | @cons p v ps vs a _ ih =>
    obtain ⟨fs, k, hl, hf⟩ := ih
    obtain ⟨a, o, n, t, u, rfl, ho, hc, hd⟩ := a
    refine ⟨.int p.1 t :: fs, KatTups.cons ho hc hd rfl k, by simp [hl], fun v m => ?_⟩
    rcases List.mem_cons.mp m with rfl | m
    · exact ⟨_, _, rfl⟩
    · exact hf v m
theorem pair_lt {p q : Int × Int} {u v : Value} {Q : Bool → Shared → Prop} (hp : PairAt s.heap p u) (hq : PairAt s.heap q v) (h : ∀ tk, Q (lexlt p q) { s with toks := tk }) : wpAny (model prog w) A (keyLt' (tuples' true) u v) Q E s := by
  obtain ⟨a, o, n, t1, t2, rfl, ho, hc, hd⟩ := hp
  obtain ⟨b, o', n', u1, u2, rfl, ho', hc', hd'⟩ := hq
  refine kat_lt ho hd ho' hd' ?_
  show KatLex prog w A true _ Q [(.int p.1 t1, .int q.1 u1), (.int p.2 t2, .int q.2 u2)] 0 s
  refine kat_cons (wpAny_eqBool_int ?_)
  by_cases e : p.1 = q.1
  · have e1 : (p.1 == q.1) = true := by simpa using e
    rw [e1]
    refine kat_yes (kat_cons (wpAny_eqBool_int ?_))
    by_cases e' : p.2 = q.2
    · have e2 : (p.2 == q.2) = true := by simpa using e'
      rw [e2]
      refine kat_yes (kat_nil ?_)
      have := h s.toks
      have e3 : lexlt p q = false := by unfold lexlt; rw [if_pos e]; simp [e']
      rw [e3] at this
      simpa using this
    · have e2 : (p.2 == q.2) = false := by simpa using e'
      rw [e2]
      refine kat_no ?_
      show wpAny _ _ (oneLt' false _ _) _ _ _
      refine kat_one _ _ (PySem.P.lt_int ?_)
      have := h s.toks
      unfold lexlt at this; rw [if_pos e] at this
      exact this
  · have e1 : (p.1 == q.1) = false := by simpa using e
    rw [e1]
    refine kat_no ?_
    show wpAny _ _ (oneLt' true _ _) _ _ _
    refine oneLt_int ?_
    have := h s.toks
    unfold lexlt at this; rw [if_neg e] at this
    exact this

theorem sortP_vals {h : Heap} {ps : List (Int × Int)} {vs : List Value} (x : PairsAt h ps vs) {p : List Nat} (hp : ∀ i ∈ p, i < ps.length) : PairsAt h (p.map fun i => ps.getD i (0, 0)) (p.map fun i => vs.getD i .none) := by
  induction p with
  | nil => exact .nil
  | cons i p ih => exact .cons (x.get (hp i (.head _))) (ih fun j m => hp j (.tail _ m))
def Pick (ps : List (Int × Int)) (vs out : List Value) : Prop := ∃ p : List Nat, (∀ i ∈ p, i < ps.length) ∧ sortP ps = p.map (fun i => ps.getD i (0, 0)) ∧ out = p.map (fun i => vs.getD i .none)
theorem Pick.pairs {h : Heap} {ps : List (Int × Int)} {vs out : List Value} (x : PairsAt h ps vs) (y : Pick ps vs out) : PairsAt h (sortP ps) out := by
  obtain ⟨p, a, b, c⟩ := y
  rw [b, c]; exact sortP_vals x a
theorem list_sort_pairs {a : Addr} {ps : List (Int × Int)} {vs : List Value} {n : Nat} {P : PySem.Fin → Shared → Prop} (ho : s.heap.get? a = some (seqObj "list" vs.toArray n)) (hI : PairsAt s.heap ps vs) (h3 : ps.length ≤ 3)
    (h : ∀ (out : List Value) tk, Pick ps vs out → P (.done (.ret .none)) { s with heap := sortedHeap s.heap a vs out.toArray, toks := tk }) :
    wpAny (model prog w) A (Builtin.«list.sort» ⟨[.ref a], []⟩) P E s := by
  have ha : a < s.heap.objs.size := Heap.lt_size ho
  have hl := hI.length
  rw [list_sort_plain]
  refine wpAny_bind (listItems_at ho rfl ?_)
  refine wpAny_bind (listUpdate_at ho rfl ?_ (by rw [List.size_toArray, sizeLine_eq]; (first | lia | omega)) (Nat.zero_le _))
  obtain ⟨e1, ho1⟩ : ∃ e1, (s.heap.update a (Obj.mapSeq fun _ => #[])).get? a = some (seqObj "list" #[] e1) := ⟨_, get?_update_seq ho (fun _ => #[])⟩
  refine wpAny_bind (seqEpoch_at ho1 rfl ?_)
  refine wpAny_bind (wpAny_newTuple ?_ (by show vs.length ≤ _; rw [sizeLine_eq]; (first | lia | omega)))
  refine wpAny_bind (wpAny_newList ?_ (Nat.zero_le _))
  refine wpAny_holding ?_
  have ho6 : (((s.heap.update a (Obj.mapSeq fun _ => #[])).push (seqObj "tuple" vs.toArray 0)).push (seqObj "list" #[] 0)).get? a = some (seqObj "list" #[] e1) := by
    rw [Heap.get?_push_ne _ _ _ (by rw [size_push', Heap.size_update]; exact Nat.ne_of_lt (Nat.lt_succ_of_lt ha)), Heap.get?_push_ne _ _ _ (by rw [Heap.size_update]; exact Nat.ne_of_lt ha)]
    exact ho1
  have kp : ∀ b o, s.heap.get? b = some o → (((s.heap.update a (Obj.mapSeq fun _ => #[])).push (seqObj "tuple" vs.toArray 0)).push (seqObj "list" #[] 0)).get? b = some o ∨ o.cls = .type "list" := fun b o e => by
    by_cases q : b = a
    · subst q; rw [ho] at e; cases e; exact .inr rfl
    · refine .inl (Heap.get?_push_of_some _ (Heap.get?_push_of_some _ ?_))
      rw [Heap.get?_update_ne _ _ _ _ q]; exact e
  have hI6 := hI.keeps kp
  show wpAny (model prog w) A _ P E { s with heap := ((s.heap.update a (Obj.mapSeq fun _ => #[])).push (seqObj "tuple" vs.toArray 0)).push (seqObj "list" #[] 0) }
  try dsimp only [conU, fnQ, fnM, outQ, nx, asQ, retQ, nexQ, endQ, flV]
  by_cases h2 : vs.toArray.size < 2
  · have h2' : ps.length < 2 := by rw [List.size_toArray] at h2; (first | lia | omega)
    rw [if_pos h2, if_pos h2]
    refine wpAny_bind (wpAny_pure ?_)
    rw [StateT.run_pure]
    refine wpAny_bind (wpAny_pure ?_)
    try dsimp only [conU, fnQ, fnM, outQ, nx, asQ, retQ, nexQ, endQ, flV]
    refine wpAny_bind (seqEpoch_at ho6 rfl ?_)
    have e : (arrOf (SortSt.mk' general' (vs.toArray.zip vs.toArray) #[] 7 none)).map (·.2) = vs.toArray := by
      show (vs.toArray.zip vs.toArray).map (·.2) = vs.toArray
      apply Array.toList_inj.mp
      simp [List.map_snd_zip]
    rw [e]
    refine wpAny_bind (listUpdate_at ho6 rfl ?_ (Nat.zero_le _) (by rw [List.size_toArray, sizeLine_eq]; (first | lia | omega)))
    simp only [bne_self_eq_false, Bool.false_eq_true, if_false]
    refine wpAny_pure (h vs s.toks ⟨List.range ps.length, fun i m => List.mem_range.mp m, ?_, ?_⟩)
    · unfold sortP; rw [if_pos h2', range_getD]
    · rw [hl]
      apply List.ext_getElem
      · simp
      · intro i h1 h2; simp [h1]
  · have h2' : 2 ≤ ps.length := by rw [List.size_toArray] at h2; (first | lia | omega)
    rw [if_neg h2, if_neg h2]
    obtain ⟨fs, hk, hfl, hfi⟩ := hI6.kat
    refine wpAny_bind (kat_kind (T := .type "int") hk (by (first | lia | omega)) (fun v m => by obtain ⟨i, t, rfl⟩ := hfi v m; exact Looks.of_pure rfl) (by decide) ?_)
    refine wpAny_bind (wpAny_mono (kat_run (Q := fun st' s' => ∃ p : Array Nat, arrOf st' = p.map (kas_item (vs.toArray.zip vs.toArray)) ∧ failedOf st' = none ∧ p.toList = sorted' ps ∧ ∃ tk, s' = { s with heap := ((s.heap.update a (Obj.mapSeq fun _ => #[])).push (seqObj "tuple" vs.toArray 0)).push (seqObj "list" #[] 0), toks := tk })
      rfl (by (first | lia | omega)) (by (first | lia | omega)) (G := fun p s' => p.toList = sorted' ps ∧ ∃ tk, s' = { s with heap := ((s.heap.update a (Obj.mapSeq fun _ => #[])).push (seqObj "tuple" vs.toArray 0)).push (seqObj "list" #[] 0), toks := tk }) (fun p' st' s' a1 a2 a3 a4 => ⟨p', a2, a3, a4.1, a4.2⟩)
      (kas_pure (n := ps.length) (c := cOf ps) (I := fun s' => ∃ tk, s' = { s with heap := ((s.heap.update a (Obj.mapSeq fun _ => #[])).push (seqObj "tuple" vs.toArray 0)).push (seqObj "list" #[] 0), toks := tk })
        (fun i j K s' hi hj ⟨tk, e⟩ hK => by
          subst e
          exact pair_lt (hI6.get hi) (hI6.get hj) fun tk => hK _ ⟨_, rfl⟩)
        _ _ (by rw [← hl]; have h23 : ps.length = 2 ∨ ps.length = 3 := by (first | lia | omega)
                rcases h23 with e | e <;> rw [e]; exact asks2; exact asks3) ⟨_, rfl⟩ (fun s' hs' => ⟨by unfold sorted'; rw [hl], hs'⟩))) ?_ fun _ _ e => e)
    rintro ⟨⟨⟩, st'⟩ s' ⟨p, har, hf, hp, tk, rfl⟩
    try dsimp only [conU, fnQ, fnM, outQ, nx, asQ, retQ, nexQ, endQ, flV]
    have hout : (arrOf st').map (·.2) = List.toArray (p.toList.map fun i => vs.getD i Value.none) := kat_snds rfl har
    rw [hout]
    refine wpAny_bind (seqEpoch_at ho6 rfl ?_)
    have hpl : p.toList.length = ps.length := by rw [hp]; have := (sorted_ok h2' h3).1.length_eq; simpa using this
    refine wpAny_bind (listUpdate_at ho6 rfl ?_ (Nat.zero_le _) (by rw [List.size_toArray, List.length_map, hpl, sizeLine_eq]; (first | lia | omega)))
    rw [hf]
    simp only [bne_self_eq_false, Bool.false_eq_true, if_false]
    refine wpAny_pure (h _ tk ⟨p.toList, fun i m => ?_, ?_, rfl⟩)
    · rw [hp] at m
      have := (sorted_ok h2' h3).1.mem_iff.mp m
      simpa using this
    · unfold sortP; rw [if_neg (by (first | lia | omega)), ← hp]
theorem call_sorted_pairs {l : Addr} {ps : List (Int × Int)} {vs : List Value} {Q : Value → Shared → Prop} (hl : s.heap.IsList l vs.toArray) (hI : PairsAt s.heap ps vs) (h3 : ps.length ≤ 3)
    (h : ∀ (out : List Value) tk, Pick ps vs out → Q (.ref (s.heap.objs.size + 1)) { s with heap := sortedAll s.heap vs out.toArray, toks := tk }) :
    wpAny (model prog w) A (call (.builtin "sorted") [.ref l]) Q E s := by
  have hlen := hI.length
  refine Calls.call_function_entry kind_sorted plain_sorted entry_sorted (args_sorted1 _) ?_
  unfold Builtin.«sorted»
  refine wpAny_bind (m := checkCount "sorted" 1 1 _) (wpAny_pure ?_)
  refine wpAny_bind (collect_list hl ?_ (by rw [sizeLine_eq]; (first | lia | omega)))
  refine wpAny_bind (wpAny_newList ?_ (by rw [sizeLine_eq]; (first | lia | omega)))
  have hsz : ((s.heap.push (seqObj "list" #[] 0)).update s.heap.objs.size (Obj.mapSeq (· ++ vs.toArray))).objs.size = s.heap.objs.size + 1 := by
    rw [Heap.size_update, size_push']
  have hoL : (((s.heap.push (seqObj "list" #[] 0)).update s.heap.objs.size (Obj.mapSeq (· ++ vs.toArray))).push (seqObj "list" vs.toArray 0)).get? (s.heap.objs.size + 1) = some (seqObj "list" vs.toArray 0) := by
    rw [← hsz]; exact Heap.get?_push_size _ rfl
  have keep : ∀ b o, s.heap.get? b = some o → (((s.heap.push (seqObj "list" #[] 0)).update s.heap.objs.size (Obj.mapSeq (· ++ vs.toArray))).push (seqObj "list" vs.toArray 0)).get? b = some o := fun b o q => by
    have hlt : b < s.heap.objs.size := Heap.lt_size q
    rw [Heap.get?_push_ne _ _ _ (by rw [hsz]; exact Nat.ne_of_lt (Nat.lt_succ_of_lt hlt)), Heap.get?_update_ne _ _ _ _ (Nat.ne_of_lt hlt), Heap.get?_push_ne _ _ _ (Nat.ne_of_lt hlt)]
    exact q
  show wpAny _ _ _ _ _ { s with heap := ((s.heap.push (seqObj "list" #[] 0)).update s.heap.objs.size (Obj.mapSeq (· ++ vs.toArray))).push (seqObj "list" vs.toArray 0) }
  rw [hsz]
  refine wpAny_bind (wpAny_holding (wpAny_call_entry slot_list_sort ⟨_, hoL, rfl⟩ entry_list_sort (list_sort_pairs (ps := ps) (s := { s with heap := ((s.heap.push (seqObj "list" #[] 0)).update s.heap.objs.size (Obj.mapSeq (· ++ vs.toArray))).push (seqObj "list" vs.toArray 0) }) hoL (hI.keeps fun a o e => .inl (keep a o e)) h3 fun out tk a1 => ⟨_, rfl, ?_⟩) (args_list_sort _)))
  exact wpAny_pure ⟨_, rfl, h out tk a1⟩
end
theorem sortedAll_keep {h : Heap} {vs : List Value} {out : Array Value} : ∀ b o, h.get? b = some o → (sortedAll h vs out).get? b = some o := fun b o q => by
  have hlt : b < h.objs.size := Heap.lt_size q
  have hsz : ((h.push (seqObj "list" #[] 0)).update h.objs.size (Obj.mapSeq (· ++ vs.toArray))).objs.size = h.objs.size + 1 := by
    rw [Heap.size_update, size_push']
  unfold sortedAll sortedHeap
  rw [Heap.get?_update_ne _ _ _ _ (Nat.ne_of_lt (Nat.lt_succ_of_lt hlt))]
  refine Heap.get?_push_of_some _ (Heap.get?_push_of_some _ ?_)
  rw [Heap.get?_update_ne _ _ _ _ (Nat.ne_of_lt (Nat.lt_succ_of_lt hlt))]
  refine Heap.get?_push_of_some _ ?_
  rw [Heap.get?_update_ne _ _ _ _ (Nat.ne_of_lt hlt), Heap.get?_push_ne _ _ _ (Nat.ne_of_lt hlt)]
  exact q
theorem sortedAll_new {h : Heap} {vs : List Value} {out : Array Value} : ∃ c, (sortedAll h vs out).get? (h.objs.size + 1) = some (seqObj "list" out c) := by
  have hsz : ((h.push (seqObj "list" #[] 0)).update h.objs.size (Obj.mapSeq (· ++ vs.toArray))).objs.size = h.objs.size + 1 := by
    rw [Heap.size_update, size_push']
  have hoL : (((h.push (seqObj "list" #[] 0)).update h.objs.size (Obj.mapSeq (· ++ vs.toArray))).push (seqObj "list" vs.toArray 0)).get? (h.objs.size + 1) = some (seqObj "list" vs.toArray 0) := by
    rw [← hsz]; exact Heap.get?_push_size _ rfl
  have e1 := get?_update_seq hoL (fun _ => (#[] : Array Value))
  have e2 := Heap.get?_push_of_some (seqObj "list" #[] 0) (Heap.get?_push_of_some (seqObj "tuple" vs.toArray 0) e1)
  exact ⟨_, get?_update_seq e2 (fun _ => out)⟩
section
variable {C : Cx} {f : Fm} {st : St} {H : Addr → Option AO} {d : Nat} {Q : V → (Addr → Option AO) → Prop}
theorem reps_pairs {w : World} {K : KM} {h : Heap} (hk : ∀ a o, K a = some o → h.get? a = some o) : ∀ {ps : List (Int × Int)} {vs : List Value}, Reps w K (ps.map V.pair) vs → PairsAt h ps vs
  | [], _, .nil => .nil
  | p :: ps, _, .cons x t => by
    obtain ⟨a, o, n, t1, u1, rfl, e, hc, hd⟩ := rep_pair x
    exact .cons ⟨a, o, _, t1, u1, rfl, hk _ _ e, hc, hd⟩ (reps_pairs hk t)
theorem fn_sorted {l : List (Int × Int)} (hn : l.length ≤ 3) (q : ∀ l' : List (Int × Int), l'.Perm l → l'.Pairwise (·.1 ≤ ·.1) → Q (.lst (l'.map V.pair)) H) : Fn C d (.builtin "sorted") [.lst (l.map V.pair)] H Q := by
  intro P K A s vs Qc E hA hX R r k
  obtain ⟨v, rfl, r1⟩ := r.one
  obtain ⟨a, o, ws, n, rfl, hk, hc, hd, rs⟩ := r1.lst'
  have hlen := rs.length
  refine call_sorted_pairs (ps := l) (vs := ws) ⟨o, R.froz _ _ hk, hc, n, hd⟩ (reps_pairs R.froz rs) hn fun out tk hp => ?_
  obtain ⟨c, ec⟩ := sortedAll_new (h := s.heap) (vs := ws) (out := out.toArray)
  have dead : s.heap.get? (s.heap.objs.size + 1) = none := by
    cases q : s.heap.get? (s.heap.objs.size + 1) with
    | none => rfl
    | some o => exact absurd (Heap.lt_size q) (Nat.not_lt.mpr (Nat.le_succ _))
  obtain ⟨R₂, g₂⟩ := R.newK (h' := sortedAll s.heap ws out.toArray) sortedAll_keep dead ec
  obtain ⟨p, hp1, hp2, hp3⟩ := hp
  subst hp3
  have rr : ∀ {p : List Nat}, (∀ i ∈ p, i < l.length) → Reps C.w K ((p.map fun i => l.getD i (0, 0)).map V.pair) (p.map fun i => ws.getD i .none) := by
    intro p hp
    induction p with
    | nil => exact .nil
    | cons i p ih =>
      refine .cons ?_ (ih fun j m => hp j (.tail _ m))
      have hi := hp i (.head _)
      obtain ⟨v, ev, rv⟩ := rs.get (i := i) (u := V.pair l[i]) (by simp [hi])
      have e1 : l.getD i (0, 0) = l[i] := by simp [hi]
      have e2 : ws.getD i .none = v := by rw [List.getD_eq_getElem?_getD, ev]; rfl
      simp only [e1, e2]; exact rv
  obtain ⟨a1, a2⟩ := sortP_ok hn
  refine k _ _ H _ _ tk g₂ R₂ (.lst (l := (sortP l).map V.pair) (n := c) KM.put_self rfl rfl ?_) (q _ a1 a2)
  rw [hp2]
  exact (rr hp1).mono g₂.le
end
end Mine
end

section
open PySem PySem.W PyProof.Rows PySem.Calls
set_option Elab.async false
set_option maxRecDepth 100000
set_option linter.unusedVariables false
namespace Mine
theorem putL_len {name : Str} {h : Int} {k v : Value} : ∀ {es : List DictEntry}, (putL name h k v es).length ≤ es.length + 1
  | [] => by simp [putL]
  | e :: r => by
    unfold putL; split
    · simp
    · simp only [List.length_cons]; have := putL_len (name := name) (h := h) (k := k) (v := v) (es := r); (first | lia | omega)
theorem putL_find' {name : Str} {h : Int} {tk : Tok} {v : Value} : ∀ {es : List DictEntry}, ∃ e, (putL name h (.str name tk) v es).find? (·.key.isStr name) = some e ∧ e.val = v
  | [] => ⟨⟨h, .str name tk, v⟩, by simp [putL, Value.isStr], rfl⟩
  | e :: r => by
    unfold putL; split
    · rename_i q; exact ⟨⟨e.hash, e.key, v⟩, by simp [q], rfl⟩
    · rename_i q
      obtain ⟨e', a, b⟩ := putL_find' (name := name) (h := h) (tk := tk) (v := v) (es := r)
      exact ⟨e', by simp [q, a], b⟩
theorem isStr_two {k : Value} {x y : Str} (h1 : k.isStr x = true) (h2 : k.isStr y = true) : x = y := by
  cases k <;> simp [Value.isStr] at h1 h2
  rw [← h1, ← h2]
theorem putL_find_ne {name nm : Str} {h : Int} {tk : Tok} {v : Value} (ne : nm ≠ name) : ∀ {es : List DictEntry}, (putL name h (.str name tk) v es).find? (·.key.isStr nm) = es.find? (·.key.isStr nm)
  | [] => by
    have : (name == nm) = false := by simpa using fun e => ne (e.symm)
    simp [putL, Value.isStr, this]
  | e :: r => by
    unfold putL; split
    · rename_i q
      have : e.key.isStr nm = false := by
        cases z : e.key.isStr nm with
        | false => rfl
        | true => exact absurd (isStr_two z q) ne
      simp [this]
    · have ih := putL_find_ne (h := h) (tk := tk) (v := v) ne (es := r)
      simp [List.find?_cons, ih]
theorem putL_ref {name : Str} {h : Int} {tk : Tok} {v : Value} : ∀ {es : List DictEntry}, (putL name h (.str name tk) v es).any (·.refKey) = es.any (·.refKey)
  | [] => by simp [putL, DictEntry.refKey]
  | e :: r => by
    unfold putL; split
    · simp [DictEntry.refKey]
    · simp only [List.any_cons, putL_ref (es := r)]
theorem getL_put {name nm : Str} {h : Int} {tk : Tok} {v : Value} {es : List DictEntry} : getL nm (putL name h (.str name tk) v es) = if nm = name then some (some v) else getL nm es := by
  unfold getL
  by_cases q : nm = name
  · rw [if_pos q]; subst q
    obtain ⟨e, a, b⟩ := putL_find' (name := nm) (h := h) (tk := tk) (v := v) (es := es)
    rw [a]; simp [b]
  · rw [if_neg q, putL_find_ne q, putL_ref]

def h00 : Heap := ⟨#[], {}⟩
theorem h00_get (a : Addr) : h00.get? a = none := by unfold h00 Heap.get?; simp
def liveBut (h : Heap) (L dx : Addr) : List (Addr × Obj) := (List.range h.objs.size).filterMap fun a => if a = L ∨ a = dx then none else (h.get? a).map fun o => (a, o)
theorem liveBut_mem {h : Heap} {L dx a : Addr} {o : Obj} : (a, o) ∈ liveBut h L dx ↔ h.get? a = some o ∧ a ≠ L ∧ a ≠ dx := by
  unfold liveBut
  rw [List.mem_filterMap]
  constructor
  · rintro ⟨b, _, e⟩
    split at e
    · cases e
    · rename_i q
      cases z : h.get? b with
      | none => rw [z] at e; cases e
      | some o' => rw [z] at e; cases e; exact ⟨z, fun e => q (.inl e), fun e => q (.inr e)⟩
  · rintro ⟨e, h1, h2⟩
    exact ⟨a, List.mem_range.mpr (Heap.lt_size e), by rw [if_neg (by rintro (q | q); exact h1 q; exact h2 q), e]; rfl⟩

section
variable {C : Cx} {f : Fm} {st : St} {H : Addr → Option AO} {d : Nat} {Q : V → (Addr → Option AO) → Prop}
theorem Rl.setNs {w : World} {P K : KM} {env : Env} {ow : Bool} {st : St} {h h' : Heap} {m' : Str → Option Value} (R : Rl w P K env ow st h) (hm : ∀ y t, st.m y = some t → env.kindOf y = some .local → ∃ v, m' y = some v ∧ Rep w K t v)
    (hn : h'.Ns env.locals m') (hs : ∀ a o, a ≠ env.locals → h.get? a = some o → h'.get? a = some o) : Rl w P K env ow st h' := by
  refine ⟨⟨fun a o q => hs a o (by rintro rfl; rw [R.loc.1] at q; cases q) (R.rh.prot a o q), fun a o q => hs a o (by rintro rfl; rw [R.loc.2] at q; cases q) (R.rh.froz a o q), fun b o q => ?_⟩, R.off, ⟨_, hn, hm⟩, R.loc, fun y t q k => ?_,
    fun q => ⟨(R.own q).loc, fun c hc' => ?_, (R.own q).nod, (R.own q).has⟩, R.pro⟩
  · obtain ⟨⟨ob, e1, r1⟩, e2⟩ := R.rh.objs b o q
    exact ⟨⟨ob, hs _ _ (R.off b o q).1 e1, r1⟩, e2⟩
  · obtain ⟨c, v', e1, ⟨o1, e2, e3⟩, r1⟩ := R.cel y t q k
    refine ⟨c, v', e1, ⟨o1, hs _ _ ?_ e2, e3⟩, r1⟩
    rintro rfl
    cases q' : ow with
    | true => exact (R.own q').loc (mem_cells e1)
    | false => obtain ⟨o, e⟩ := R.pro q' _ (mem_cells e1); rw [R.loc.1] at e; cases e
  · obtain ⟨e1, e2, v', o1, e3, e4⟩ := (R.own q).cel c hc'
    exact ⟨e1, e2, v', o1, hs _ _ (by rintro rfl; exact (R.own q).loc hc') e3, e4⟩
/-- self.name = u -/
theorem aas_attr {x : Str} {np p : Pos} {name : Str} {u : V} {Q : St → Prop} (hh : ∀ K v, Rep C.w K u v → handedIn v = true) (hset : findIn (HF C.w.params) (.ref 105) "__setattr__" = some (some (.builtin "object.__setattr__"))) (hp : plainOver (HF C.w.params) 105 = true) (ht : takerIn (HF C.w.params) 105 name = some none)
    (h : aw C f (.Name x np) (fun uo st₁ => ∃ a dx fs, uo = .raw (.ref a) ∧ st₁.H a = some (.inst 105 dx) ∧ st₁.H dx = some (.idict fs) ∧ fs.length ≤ 100 ∧ Q { st₁ with H := hput st₁.H dx (.idict ((name, u) :: fs)) }) st) : aas C f (.Attribute (.Name x np) name p) u Q st := by
  intro P K env A s v Qc E hA hE hX R r k
  rw [arm_assign_Attribute]
  refine wpAny_bind (wpAny_holding (h P K env A s _ E hA hE hX R ?_))
  rintro uo vo st₁ K₁ h₁ tk₁ g₁ R₁ ro ⟨a, dx, fs, rfl, hHa, hHd, hfl, qq⟩
  (first | cases ro.raw' | obtain ⟨_, rfl⟩ := ro.int' | obtain ⟨_, rfl⟩ := ro.str' | cases ro.bool' | cases ro)
  refine wpAny_bind (wpAny_standAt (wpAny_bind (wpAny_holding ?_)))
  obtain ⟨⟨oa, hoa, rfl⟩, _⟩ := R₁.rh.objs _ _ hHa
  obtain ⟨⟨od, hod, des, n, vf, ⟨rfl, hdl⟩, e1, e2, e3⟩, hPd, hKd⟩ := R₁.rh.objs _ _ hHd
  have X := C.X.keeps (Rl.ext R₁ hX)
  have I : InstAt h₁ a (instObj 105 dx) 105 (some (dictOf des n)) := ⟨hoa, rfl, rfl, hod⟩
  have ad : a ≠ dx := by rintro rfl; rw [hHa] at hHd; cases hHd
  obtain ⟨m', hn, hm⟩ := R₁.ns
  have F : Fr h00 env.locals h₁ m' := ⟨hn, fun b o e => (by rw [h00_get] at e; cases e), Nat.zero_le _⟩
  have N : News h00 env.locals h₁ ([] ++ (dx, dictOf des n) :: liveBut h₁ env.locals dx) := fun p hp => by
    simp only [List.nil_append, List.mem_cons] at hp
    rcases hp with rfl | hp
    · exact ⟨hod, (R₁.off _ _ hHd).1, h00_get _⟩
    · obtain ⟨b, o⟩ := p
      obtain ⟨a1, a2, a3⟩ := liveBut_mem.mp hp
      exact ⟨a1, a2, h00_get _⟩
  have hl : (lookIn name (dictOf des n)).isSome = true := by
    rw [lookIn_dict]
    cases z : fs.lookup name with
    | none => rw [e3 name z]; rfl
    | some t => rw [(e1 name t z).1]; rfl
  refine set_plain (s := { s with heap := h₁, toks := tk₁ }) X I hset (osa_dict (s := { s with heap := h₁, toks := tk₁ + 1 }) F N X I rfl hp ht hasD hl (fun p hp => by cases hp) (fun p hp => (liveBut_mem.mp (show (p.1, p.2) ∈ _ from hp)).2.2)
    (by rw [putName_dict]) rfl (Nat.le_trans putL_len (by (first | lia | omega))) fun h' F' N' => ?_)
  have nd := N' (dx, _) (.head _)
  have kp : ∀ b o, b ≠ env.locals → b ≠ dx → h₁.get? b = some o → h'.get? b = some o := fun b o n1 n2 e => (N' (b, o) (.tail _ (liveBut_mem.mpr ⟨e, n1, n2⟩))).1
  have ndL : dx ≠ env.locals := (R₁.off _ _ hHd).1
  -- first the frame's own names, then the object
  have R₂ : Rl C.w P K₁ env f.ow { st₁ with H := hput st₁.H dx (.idict ((name, u) :: fs)) } h' := by
    have hcn := (R₁.off _ _ hHd).2
    refine ⟨⟨fun b o q => kp b o (by rintro rfl; rw [R₁.loc.1] at q; cases q) (by rintro rfl; rw [hPd] at q; cases q) (R₁.rh.prot b o q), fun b o q => kp b o (by rintro rfl; rw [R₁.loc.2] at q; cases q) (by rintro rfl; rw [hKd] at q; cases q) (R₁.rh.froz b o q), fun b o q => ?_⟩, fun b o q => ?_, ⟨_, F'.ns, hm⟩, R₁.loc, fun y t q kd => ?_,
      fun q => ⟨(R₁.own q).loc, fun c hc' => ?_, (R₁.own q).nod, (R₁.own q).has⟩, R₁.pro⟩
    · by_cases z : b = dx
      · subst z; simp only [hput_self] at q; cases q
        refine ⟨⟨_, nd.1, ?_⟩, hPd, hKd⟩
        refine ⟨_, _, fun nm => if nm = name then v else vf nm, ⟨rfl, ?_⟩, fun nm t e => ?_, fun nm t e => ?_, fun nm e => ?_⟩
        · have := putL_len (name := name) (h := PyData.keyHash C.w.params name) (k := .str name (tk₁ + 1)) (v := v) (es := des)
          simp only [List.length_cons]; (first | lia | omega)
        · rw [getL_put]
          rw [List.lookup_cons] at e
          by_cases z : nm = name
          · subst z; simp only [if_true]; exact ⟨trivial, hh _ _ r⟩
          · simp only [if_neg z]
            have : (nm == name) = false := by simpa using z
            rw [this] at e; exact e1 nm t e
        · rw [List.lookup_cons] at e
          by_cases z : nm = name
          · subst z; simp only [beq_self_eq_true] at e; cases e; simp only [if_true]; exact r.mono g₁.le
          · simp only [if_neg z]
            have : (nm == name) = false := by simpa using z
            rw [this] at e; exact e2 nm t e
        · rw [getL_put]
          rw [List.lookup_cons] at e
          by_cases z : nm = name
          · subst z; simp only [beq_self_eq_true] at e; cases e
          · simp only [if_neg z]
            have : (nm == name) = false := by simpa using z
            rw [this] at e; exact e3 nm e
      · simp only [hput_ne z] at q
        obtain ⟨⟨ob, e1, r1⟩, e2⟩ := R₁.rh.objs b o q
        exact ⟨⟨ob, kp _ _ (R₁.off b o q).1 z e1, r1⟩, e2⟩
    · by_cases z : b = dx
      · subst z; exact ⟨ndL, hcn⟩
      · simp only [hput_ne z] at q; exact R₁.off b o q
    · obtain ⟨c, v', e1, ⟨o1, e2, e3⟩, r1⟩ := R₁.cel y t q kd
      refine ⟨c, v', e1, ⟨o1, kp _ _ ?_ ?_ e2, e3⟩, r1⟩
      · rintro rfl
        cases q' : f.ow with
        | true => exact (R₁.own q').loc (mem_cells e1)
        | false => obtain ⟨o, e⟩ := R₁.pro q' _ (mem_cells e1); rw [R₁.loc.1] at e; cases e
      · rintro rfl
        cases q' : f.ow with
        | true => exact hcn q' (mem_cells e1)
        | false => obtain ⟨o, e⟩ := R₁.pro q' _ (mem_cells e1); rw [hPd] at e; cases e
    · obtain ⟨e1, e2, v', o1, e3, e4⟩ := (R₁.own q).cel c hc'
      exact ⟨e1, e2, v', o1, kp _ _ (by rintro rfl; exact (R₁.own q).loc hc') (by rintro rfl; exact hcn q hc') e3, e4⟩
  exact wpAny_release (k _ K₁ h' _ g₁ R₂ qq)
theorem aw_dictN0 {p : Pos} {Q : V → St → Prop} (q : ∀ a, st.H a = none → a ≠ sysModules → Q (.raw (.ref a)) { st with H := hput st.H a (.dictN []) }) : aw C f (.Dict [] [] p) Q st := by
  intro P K env A s Qc E hA hE hX R k
  refine wpAny_Dict_empty ?_
  obtain ⟨R₂, e₂⟩ := R.pushH (o := { cls := .type "dict", data := .dict #[] }) (a := .dictN []) ⟨⟨rfl, rfl, rfl⟩, #[], 0, [], rfl, rfl, .nil, rfl, .nil, .nil⟩
  refine k _ _ _ K _ _ (KGe.refl P K) R₂ (.raw _) (q _ e₂ (not_sys R hX))
end
end Mine
end

section
open PySem PySem.W PyProof.Rows PySem.Calls
set_option Elab.async false
set_option maxRecDepth 100000
set_option linter.unusedVariables false
namespace Mine
def FnK (C : Cx) (d : Nat) (fv : Value) (us : List V) (H : Addr → Option AO) (Q : V → (Addr → Option AO) → Prop) : Prop :=
  ∀ (P K : KM) (A : Around) (s : Shared) (vs : List Value) (Rr : Result → Shared → Prop), Okc A d → Ext C.hb P → RH C.w P K H s.heap → Reps C.w K us vs →
    (∀ u v H' K' h' tk, KGe P K K' → RH C.w P K' H' h' → Rep C.w K' u v → Q u H' → Rr (.ok (.ret v)) { s with heap := h', toks := tk }) → (∀ e s', Rr (.error e) s' ∨ True) → codeAny (MM C.w) A (.call fv ⟨vs, []⟩) Rr s
theorem fn_defK {C : Cx} {fa : Addr} {ps : List Str} {body : List Stmt} {sc : Scope} {d : Nat} {us : List V} {H : Addr → Option AO} {Q : V → (Addr → Option AO) → Prop} (D : DefAt C fa ps body sc) (hn : us.length = ps.length)
    (hloc : ∀ x ∈ ps, sc.names.lookup x = some .local) (hcell : ∀ x ∈ sc.names, x.2 ≠ .cell)
    (h : ax C ⟨sc, true, d⟩ body (endQ Q) ⟨mOf ps us, H⟩) : FnK C (d + 1) (.ref fa) us H Q := by
  intro P K A s vs Rr hA hX R r k _
  obtain ⟨oc, od, fd, osl, hl, hcd, hbody, hclo, rfl, hgl, hbu, hb⟩ := D.at'
  have hs : C.hb.StaysIn s.heap := fun b o e => R.prot b o (hX b o e)
  have hvl : vs.length = ps.length := by rw [← r.length]; exact hn
  have hnm : (ps.zip vs).map (·.1) = ps := zip_names hvl.symm
  refine codeAny_call_def (fd := fd) (body := body) (binds := ps.zip vs) (by have := hA.dep; (first | lia | omega)) (C.X.keeps hs _ _ hl) rfl (C.lim.keeps hs) (codeRec_of (C.X.keeps hs) hcd) hbody (BindsTo.of_eq (hb vs hvl)) hcell
    (fun x hx => hloc x.1 (by rw [← hnm]; exact List.mem_map_of_mem hx)) (fun h₀ hns hk => ?_) D.co D.gen D.fn
  have eC : (callEnv fd s.heap.objs.size fa).cells = [] := hclo
  have hE : EnvOk ⟨fd.scope, true, d⟩ (callEnv fd s.heap.objs.size fa) := ⟨rfl, hgl, hbu, D.fn⟩
  have hG : GoodEnv (callEnv fd s.heap.objs.size fa) := ⟨D.gen, D.co, hbu, hgl⟩
  have fr := R.freshP (get_size s.heap)
  have R0 : Rl C.w P K (callEnv fd s.heap.objs.size fa) true ⟨mOf ps us, H⟩ h₀ := by
    refine ⟨⟨fun a o e => hk a o (R.prot a o e), fun a o e => hk a o (R.froz a o e), fun a o e => let ⟨⟨ob, e1, r1⟩, q⟩ := R.objs a o e; ⟨⟨ob, hk _ _ e1, r1⟩, q⟩⟩, fun a o e => ⟨?_, fun _ => by rw [eC]; simp⟩, ⟨_, hns, fun x u e _ => ?_⟩, ⟨fr.1, fr.2.1⟩, fun x u e kd => ?_,
      fun _ => ⟨by rw [eC]; simp, by rw [eC]; simp, by rw [eC]; simp, fun x hx => absurd rfl (hcell (x, .cell) (lookup_mem hx))⟩, fun e => by cases e⟩
    · rintro rfl; exact absurd ((show H s.heap.objs.size = some o from e).symm.trans fr.2.2) (by simp)
    · obtain ⟨v, e', r'⟩ := zip_lookup r e
      exact ⟨v, by rw [lookup_rev (by rw [hnm]; exact D.nd)]; exact e', r'⟩
    · obtain ⟨v, e', r'⟩ := zip_lookup r e
      exfalso
      have hx : x ∈ ps := by rw [← hnm]; exact List.mem_map.mpr ⟨_, lookup_mem e', rfl⟩
      have e1 := hloc x hx
      rw [show (callEnv fd s.heap.objs.size fa).kindOf x = fd.scope.names.lookup x from rfl, e1] at kd; cases kd
  refine h P K _ _ _ _ _ (hA.deeper hG) hE hX R0 ?_
  intro fl flv st' K' h' tk g R' rf q
  cases rf with
  | ret rv => exact k _ _ st'.H K' h' tk g R'.rh rv q
  | next => exact k _ _ st'.H K' h' tk g R'.rh .none q
  | brk => exact k _ _ st'.H K' h' tk g R'.rh .none q
  | cont => exact k _ _ st'.H K' h' tk g R'.rh .none q
theorem RH.pushH {w : World} {P K : KM} {H : Addr → Option AO} {h : Heap} (R : RH w P K H h) {o : Obj} {a : AO} (r : ORep w K a o) : RH w P K (hput H h.objs.size a) (h.push o) ∧ H h.objs.size = none := by
  obtain ⟨h1, h2, h3⟩ := R.freshP (get_size h)
  have R' : RH w P K H (h.push o) := R.grow fun _ _ e => Heap.get?_push_of_some _ e
  refine ⟨⟨R'.prot, R'.froz, fun b x e => ?_⟩, h3⟩
  by_cases q : b = h.objs.size
  · subst q; simp only [hput_self] at e; cases e; exact ⟨⟨o, Heap.get?_push_size _ r.free, r⟩, h1, h2⟩
  · simp only [hput_ne q] at e; exact R'.objs b x e
theorem RH.freeze {w : World} {P K : KM} {H : Addr → Option AO} {h : Heap} (R : RH w P K H h) {d : Addr} {o : AO} {ob : Obj} (e : H d = some o) (hd : h.get? d = some ob) : RH w P (K.put d ob) (hdel H d) h ∧ KGe P K (K.put d ob) := by
  obtain ⟨hP, hK⟩ := (R.objs d o e).2
  have g := KGe.put (o := ob) hK hP
  refine ⟨⟨R.prot, fun a x q => ?_, fun b x q => ?_⟩, g⟩
  · by_cases n : a = d
    · subst n; rw [KM.put_self] at q; cases q; exact hd
    · rw [KM.put_ne n] at q; exact R.froz a x q
  · by_cases n : b = d
    · subst n; rw [hdel_self] at q; cases q
    · rw [hdel_ne n] at q
      obtain ⟨⟨ob, e1, r1⟩, e2, e3⟩ := R.objs b x q
      exact ⟨⟨ob, e1, r1.mono g.le⟩, e2, by rw [KM.put_ne n]; exact e3⟩
theorem fn_plainK {C : Cx} {fa : Addr} {ps : List Str} {d : Nat} {us : List V} {H : Addr → Option AO} {Q : V → (Addr → Option AO) → Prop} (D : DefAt C fa ps (bd C.w.params fa) (sc C.w.params fa)) (hn : us.length = ps.length) (hp : plainOk C.w.params fa ps = true)
    (h : ax C ⟨sc C.w.params fa, true, d⟩ (bd C.w.params fa) (endQ Q) ⟨mOf ps us, H⟩) : FnK C (d + 1) (.ref fa) us H Q := by
  unfold plainOk at hp
  simp only [Bool.and_eq_true, List.all_eq_true, beq_iff_eq, bne_iff_ne] at hp
  exact fn_defK D hn hp.1 hp.2 h
theorem set_105 {P : Params} : findIn (HF P) (.ref 105) "__setattr__" = some (some (.builtin "object.__setattr__")) := by kernel_rfl
theorem over_105 {P : Params} : plainOver (HF P) 105 = true := by kernel_rfl
theorem tk_tops {P : Params} : takerIn (HF P) 105 "tops" = some none := by kernel_rfl
theorem tk_nodes {P : Params} : takerIn (HF P) 105 "nodes" = some none := by kernel_rfl
theorem tk_book {P : Params} : takerIn (HF P) 105 "book" = some none := by kernel_rfl
theorem tk_memo {P : Params} : takerIn (HF P) 105 "memo" = some none := by kernel_rfl
theorem makes_105 {P : Params} : makesIn (HF P) 105 = true := by kernel_rfl
theorem find_init {P : Params} : findIn (HF P) (.ref 105) "__init__" = some (some (.ref 67)) := by kernel_rfl
theorem ty_init {P : Params} : typeIn (HF P) (.ref 67) = some (.type "function") := by kernel_rfl
theorem keep_Diagrams {C : Cx} : Keeps1 C (.ref 105) := keeps1_ref (by kernel_rfl)
section
variable {C : Cx} {f : Fm} {st : St} {H : Addr → Option AO} {d : Nat} {Q : V → (Addr → Option AO) → Prop}
theorem c_init {tops : List Int} {x dx : Addr} (hx : H x = some (.inst 105 dx)) (hdx : H dx = some (.idict []))
    (q : ∀ G : Gd, G.Ok → G.tops = tops → H G.an = none → H G.ab = none → H G.am = none →
      Q .none (hput (hput (hput (hput H dx (.idict [("memo", .raw (.ref G.am)), ("book", .raw (.ref G.ab)), ("nodes", .raw (.ref G.an)), ("tops", V.ints tops)])) G.an (.list [])) G.ab (.dictN [])) G.am (.dictI []))) : FnK C 2 (.ref 67) [.raw (.ref x), V.ints tops] H Q := by
  have xd : x ≠ dx := by rintro rfl; rw [hx] at hdx; cases hdx
  refine fn_plainK def_init rfl (by kernel_rfl) ?_
  conv => arg 3; whnf
  conv => arg 2; arg 1; whnf
  refine ax_cons (ax1_assign (aw_local (u := V.ints tops) rfl ?_))
  refine aas_attr (fun K v r => by (first | cases r.raw' | obtain ⟨_, rfl⟩ := r.int' | obtain ⟨_, rfl⟩ := r.str' | cases r.bool' | cases r); rfl) set_105 over_105 tk_tops (aw_local (u := .raw (.ref x)) rfl ⟨x, dx, _, rfl, hx, hdx, by simp, ?_⟩)
  have h1x : (hput H dx (.idict [("tops", V.ints tops)])) x = some (.inst 105 dx) := by rw [hput_ne xd]; exact hx
  refine ax_cons (ax1_assign (aw_listH (aws_nil ⟨by simp, fun an han => ?_⟩)))
  dsimp only at han
  have nd : an ≠ dx := by rintro rfl; rw [hput_self] at han; cases han
  have nx : an ≠ x := by rintro rfl; rw [h1x] at han; cases han
  have hn0 : H an = none := by rwa [hput_ne nd] at han
  refine aas_attr (fun K v r => by (first | cases r.raw' | obtain ⟨_, rfl⟩ := r.int' | obtain ⟨_, rfl⟩ := r.str' | cases r.bool' | cases r); rfl) set_105 over_105 tk_nodes (aw_local (u := .raw (.ref x)) rfl ⟨x, dx, [("tops", V.ints tops)], rfl, by dsimp only; rw [hput_ne nx.symm]; exact h1x, by dsimp only; rw [hput_ne nd.symm]; exact hput_self, by simp, ?_⟩)
  refine ax_cons (ax1_assign (aw_dictN0 (fun ab hab b1 => ?_)))
  dsimp only at hab
  have bd : ab ≠ dx := by rintro rfl; rw [hput_self] at hab; cases hab
  have bn : ab ≠ an := by rintro rfl; rw [hput_ne bd, hput_self] at hab; cases hab
  have bx : ab ≠ x := by rintro rfl; rw [hput_ne bd, hput_ne bn, h1x] at hab; cases hab
  have hb0 : H ab = none := by rwa [hput_ne bd, hput_ne bn, hput_ne bd] at hab
  refine aas_attr (fun K v r => by (first | cases r.raw' | obtain ⟨_, rfl⟩ := r.int' | obtain ⟨_, rfl⟩ := r.str' | cases r.bool' | cases r); rfl) set_105 over_105 tk_book (aw_local (u := .raw (.ref x)) rfl ⟨x, dx, [("nodes", .raw (.ref an)), ("tops", V.ints tops)], rfl, by dsimp only; rw [hput_ne bx.symm, hput_ne xd, hput_ne nx.symm]; exact h1x, by dsimp only; rw [hput_ne bd.symm, hput_self], by simp, ?_⟩)
  refine ax_cons (ax1_assign (aw_dict0 (fun am ham m1 => ?_)))
  dsimp only at ham
  have md : am ≠ dx := by rintro rfl; rw [hput_self] at ham; cases ham
  have mb : am ≠ ab := by rintro rfl; rw [hput_ne md, hput_self] at ham; cases ham
  have mn : am ≠ an := by rintro rfl; rw [hput_ne md, hput_ne mb, hput_ne md, hput_self] at ham; cases ham
  have mx : am ≠ x := by rintro rfl; rw [hput_ne md, hput_ne mb, hput_ne md, hput_ne mn, h1x] at ham; cases ham
  have hm0 : H am = none := by rwa [hput_ne md, hput_ne mb, hput_ne md, hput_ne mn, hput_ne md] at ham
  refine aas_attr (fun K v r => by (first | cases r.raw' | obtain ⟨_, rfl⟩ := r.int' | obtain ⟨_, rfl⟩ := r.str' | cases r.bool' | cases r); rfl) set_105 over_105 tk_memo (aw_local (u := .raw (.ref x)) rfl ⟨x, dx, [("book", .raw (.ref ab)), ("nodes", .raw (.ref an)), ("tops", V.ints tops)], rfl, by dsimp only; rw [hput_ne mx.symm, hput_ne xd, hput_ne bx.symm, hput_ne xd, hput_ne nx.symm]; exact h1x, by dsimp only; rw [hput_ne md.symm, hput_self], by simp, ?_⟩)
  refine ax_nil ?_
  have := q ⟨tops, an, ab, am⟩ ⟨bn.symm, mn.symm, mb.symm, b1, m1⟩ rfl hn0 hb0 hm0
  refine cast (congrArg (Q .none) ?_) this
  funext b
  unfold hput
  by_cases q1 : b = dx
  · subst q1; simp [nd.symm, bd.symm, md.symm]
  · by_cases q2 : b = am
    · subst q2; simp [q1]
    · by_cases q3 : b = ab
      · subst q3; simp [q1, q2]
      · by_cases q4 : b = an
        · subst q4; simp [q1, q2, q3]
        · simp [q1, q2, q3, q4]
/-- Diagrams(tops) -/
theorem c_Diagrams {tops : List Int} (q : ∀ G : Gd, G.Ok → G.tops = tops → H G.an = none → H G.ab = none → H G.am = none → Q G.val (DH G ⟨[], []⟩ H)) : Fn C 3 (.ref 105) [V.ints tops] H Q := by
  intro P K A s vs Qc E hA hX R r k
  obtain ⟨tv, rfl, rt⟩ := r.one
  have hs : C.hb.StaysIn s.heap := fun b o e => R.prot b o (hX b o e)
  have X := C.X.keeps hs
  obtain ⟨R1, e1⟩ := R.pushH (o := emptyDict) (a := .idict []) ⟨[], 0, fun _ => .none, ⟨rfl, Nat.le_refl _⟩, (fun nm u e => by cases e), (fun nm u e => by cases e), (fun nm _ => rfl)⟩
  obtain ⟨R2, e2⟩ := R1.pushH (o := instObj 105 s.heap.objs.size) (a := .inst 105 s.heap.objs.size) rfl
  have hsz : (s.heap.push emptyDict).objs.size = s.heap.objs.size + 1 := Heap.size_push ..
  rw [hsz] at R2 e2
  have ne : s.heap.objs.size + 1 ≠ s.heap.objs.size := Nat.succ_ne_self _
  refine wpAny_call ?_
  obtain ⟨hh, g, dd, t, os⟩ := s
  refine make_core (makes_of X makes_105) (looks_findIn X find_init) (fun self => bind_fn X self ty_init) (.inl rfl) ?_
  have hA' : Okc (A.under (.builtin "type.__call__" ⟨[.ref 105, tv], []⟩)) 2 := by
    have hw : (Code.builtin "type.__call__" ⟨[.ref 105, tv], []⟩).weight = 1 := rfl
    have hu : (Code.builtin "type.__call__" ⟨[.ref 105, tv], []⟩).cUnits = 1 := rfl
    refine ⟨hA.hh, ?_, ?_, ?_⟩
    · have := hA.dep
      show A.depth + (Code.builtin "type.__call__" ⟨[.ref 105, tv], []⟩).weight + 2 + 100 < _
      rw [hw]; (first | lia | omega)
    · have := hA.un
      show A.units + (Code.builtin "type.__call__" ⟨[.ref 105, tv], []⟩).cUnits + 8 * 2 + 100 < _
      rw [hu]; (first | lia | omega)
    · exact hA.fr
  refine c_init (C := C) (tops := tops) (x := hh.objs.size + 1) (dx := hh.objs.size) (H := hput (hput H hh.objs.size (.idict [])) (hh.objs.size + 1) (.inst 105 hh.objs.size)) hput_self (by rw [hput_ne ne.symm, hput_self])
    (Q := fun u H' => ∃ G : Gd, u = .none ∧ G.Ok ∧ G.tops = tops ∧ (hput (hput H hh.objs.size (.idict [])) (hh.objs.size + 1) (.inst 105 hh.objs.size)) G.an = none ∧ (hput (hput H hh.objs.size (.idict [])) (hh.objs.size + 1) (.inst 105 hh.objs.size)) G.ab = none ∧ (hput (hput H hh.objs.size (.idict [])) (hh.objs.size + 1) (.inst 105 hh.objs.size)) G.am = none ∧
      H' = (hput (hput (hput (hput (hput (hput H hh.objs.size (.idict [])) (hh.objs.size + 1) (.inst 105 hh.objs.size)) hh.objs.size (.idict [("memo", .raw (.ref G.am)), ("book", .raw (.ref G.ab)), ("nodes", .raw (.ref G.an)), ("tops", V.ints tops)])) G.an (.list [])) G.ab (.dictN [])) G.am (.dictI [])))
    (fun G g1 g2 g3 g4 g5 => ⟨G, rfl, g1, g2, g3, g4, g5, rfl⟩) P K _ _ [.ref (hh.objs.size + 1), tv] _ hA' hX R2 (.cons (.raw _) (.cons rt .nil)) ?_ (fun _ _ => .inr trivial)
  rintro u v H' K' h' tk g' R' rv ⟨G, rfl, g1, g2, g3, g4, g5, rfl⟩
  cases rv
  refine ⟨rfl, ?_⟩
  have x1 : H (hh.objs.size + 1) = none := by rwa [hput_ne ne] at e2
  have a1 : G.an ≠ hh.objs.size + 1 := by intro e; rw [e, hput_self] at g3; cases g3
  have a2 : G.an ≠ hh.objs.size := by intro e; rw [e, hput_ne ne.symm, hput_self] at g3; cases g3
  have b1 : G.ab ≠ hh.objs.size + 1 := by intro e; rw [e, hput_self] at g4; cases g4
  have b2 : G.ab ≠ hh.objs.size := by intro e; rw [e, hput_ne ne.symm, hput_self] at g4; cases g4
  have c1 : G.am ≠ hh.objs.size + 1 := by intro e; rw [e, hput_self] at g5; cases g5
  have c2 : G.am ≠ hh.objs.size := by intro e; rw [e, hput_ne ne.symm, hput_self] at g5; cases g5
  generalize hHH : (hput (hput (hput (hput (hput (hput H hh.objs.size (.idict [])) (hh.objs.size + 1) (.inst 105 hh.objs.size)) hh.objs.size (.idict [("memo", .raw (.ref G.am)), ("book", .raw (.ref G.ab)), ("nodes", .raw (.ref G.an)), ("tops", V.ints tops)])) G.an (.list [])) G.ab (.dictN [])) G.am (.dictI [])) = HH at R'
  have hd : HH hh.objs.size = some (.idict [("memo", .raw (.ref G.am)), ("book", .raw (.ref G.ab)), ("nodes", .raw (.ref G.an)), ("tops", V.ints tops)]) := by
    rw [← hHH, hput_ne c2.symm, hput_ne b2.symm, hput_ne a2.symm, hput_self]
  have hxx : HH (hh.objs.size + 1) = some (.inst 105 hh.objs.size) := by
    rw [← hHH, hput_ne c1.symm, hput_ne b1.symm, hput_ne a1.symm, hput_ne ne, hput_self]
  obtain ⟨⟨od, hod, des, n, vf, ⟨rfl, hdl⟩, l1, l2, l3⟩, _⟩ := R'.objs _ _ hd
  obtain ⟨R3, k3⟩ := R'.freeze hd hod
  have hxx' : hdel HH hh.objs.size (hh.objs.size + 1) = some (.inst 105 hh.objs.size) := by rw [hdel_ne ne]; exact hxx
  obtain ⟨⟨ox, hox, rfl⟩, _⟩ := R3.objs _ _ hxx'
  obtain ⟨R4, k4⟩ := R3.freeze hxx' hox
  have eH : hdel (hdel HH hh.objs.size) (hh.objs.size + 1) = DH G ⟨[], []⟩ H := by
    rw [← hHH]
    funext b
    unfold DH hput hdel
    by_cases q1 : b = hh.objs.size + 1
    · subst q1; simp [x1, a1.symm, b1.symm, c1.symm]
    · by_cases q2 : b = hh.objs.size
      · subst q2; simp [e1, a2.symm, b2.symm, c2.symm]
      · simp only [q1, q2, if_false]; rfl
  rw [eH] at R4
  have el : ∀ nm : Str, ([("tops", V.ints tops), ("nodes", .raw (.ref G.an)), ("book", .raw (.ref G.ab)), ("memo", .raw (.ref G.am))] : List (Str × V)).lookup nm = ([("memo", .raw (.ref G.am)), ("book", .raw (.ref G.ab)), ("nodes", .raw (.ref G.an)), ("tops", V.ints tops)] : List (Str × V)).lookup nm := fun nm =>
    (lookup_rev (l := ([("tops", V.ints tops), ("nodes", .raw (.ref G.an)), ("book", .raw (.ref G.ab)), ("memo", .raw (.ref G.am))] : List (Str × V))) (List.nodup_cons.mpr ⟨by simp; decide, List.nodup_cons.mpr ⟨by simp; decide, List.nodup_cons.mpr ⟨by simp; decide, List.nodup_cons.mpr ⟨by simp, .nil⟩⟩⟩⟩) nm).symm
  refine k G.val _ _ _ h' tk ((KGe.trans g' k3).trans k4) R4 ?_ (q G g1 g2 ?_ ?_ ?_)
  · unfold Gd.val
    rw [g2]
    exact .inst (dx := hh.objs.size) KM.put_self (by rw [KM.put_ne ne.symm, KM.put_self]) (fun nm t e => l1 nm t (by rw [← el]; exact e)) (fun nm t e => (l2 nm t (by rw [← el]; exact e)).mono (k3.trans k4).le) (fun nm e => l3 nm (by rw [← el]; exact e))
  · rwa [hput_ne a1, hput_ne a2] at g3
  · rwa [hput_ne b1, hput_ne b2] at g4
  · rwa [hput_ne c1, hput_ne c2] at g5
end
end Mine
end

section
set_option Elab.async false
set_option linter.unusedVariables false
namespace Mine
/- the pure part: nodes, and what they tell -/
def nd (ns : List Node) (n : Int) : Option Node := if 0 ≤ n then ns[n.toNat]? else none
theorem nd_nat {ns : List Node} {n : Int} {k : Node} (h : nd ns n = some k) : ∃ m : Nat, n = m ∧ ns[m]? = some k := by
  unfold nd at h
  split at h
  · exact ⟨n.toNat, by (first | lia | omega), h⟩
  · cases h
theorem nd_of {ns : List Node} {m : Nat} {k : Node} (h : ns[m]? = some k) : nd ns (m : Nat) = some k := by
  unfold nd; rw [if_pos (by (first | lia | omega))]; simpa using h
def pick : List (Int × Int) → Int → Option Int
  | [], _ => none
  | (h, m) :: r, v => if v ≤ h then some m else pick r v
inductive Ev (ns : List Node) : Int → (Int → Int) → Int → Prop
  | leaf {n : Int} {a : Int → Int} {v : Int} (h : nd ns n = some (.leaf v)) : Ev ns n a v
  | br {n : Int} {a : Int → Int} {v x m : Int} {ps : List (Int × Int)} (h : nd ns n = some (.br x ps)) (p : pick ps (a x) = some m) (e : Ev ns m a v) : Ev ns n a v
def lv (ns : List Node) (n : Int) : Int := match nd ns n with
  | some (.br x _) => x
  | _ => 3
def topOf (T : List Int) (x : Int) : Int := T.getD x.toNat 0
def Rise : Int → List (Int × Int) → Int → Prop
  | at', [], top => at' = top
  | at', (h, _) :: r, top => at' < h ∧ Rise h r top
def Diff : List (Int × Int) → Prop
  | p :: q :: r => p.2 ≠ q.2 ∧ Diff (q :: r)
  | _ => True
structure BrOk (T : List Int) (ns : List Node) (x : Int) (ps : List (Int × Int)) : Prop where
  x0 : 0 ≤ x
  x3 : x < 3
  rise : Rise (-1) ps (topOf T x)
  diff : Diff ps
  two : 2 ≤ ps.length
  kids : ∀ p ∈ ps, (nd ns p.2).isSome = true ∧ x < lv ns p.2
structure WF (T : List Int) (ns : List Node) : Prop where
  nodup : ns.Nodup
  ok : ∀ n x ps, nd ns n = some (.br x ps) → BrOk T ns x ps
def Pre (ns ns' : List Node) : Prop := ∃ t, ns' = ns ++ t
theorem Pre.refl (ns : List Node) : Pre ns ns := ⟨[], by simp⟩
theorem Pre.trans {a b c : List Node} (h : Pre a b) (h' : Pre b c) : Pre a c := by
  obtain ⟨t, rfl⟩ := h; obtain ⟨u, rfl⟩ := h'; exact ⟨t ++ u, by simp⟩
theorem Pre.nd {ns ns' : List Node} (h : Pre ns ns') {n : Int} {k : Node} (e : nd ns n = some k) : nd ns' n = some k := by
  obtain ⟨t, rfl⟩ := h
  obtain ⟨m, rfl, e'⟩ := nd_nat e
  refine nd_of ?_
  rw [List.getElem?_append_left (List.getElem?_eq_some_iff.mp e').1]; exact e'
theorem Pre.some {ns ns' : List Node} (h : Pre ns ns') {n : Int} (e : (Mine.nd ns n).isSome = true) : (Mine.nd ns' n).isSome = true := by
  obtain ⟨k, e⟩ := Option.isSome_iff_exists.mp e
  rw [h.nd e]; rfl
theorem Pre.lv {ns ns' : List Node} (h : Pre ns ns') {n : Int} (e : (Mine.nd ns n).isSome = true) : Mine.lv ns' n = Mine.lv ns n := by
  obtain ⟨k, e⟩ := Option.isSome_iff_exists.mp e
  unfold Mine.lv; rw [h.nd e, e]
theorem Ev.mono {ns ns' : List Node} (h : Pre ns ns') {n : Int} {a : Int → Int} {v : Int} (e : Ev ns n a v) : Ev ns' n a v := by
  induction e with
  | leaf q => exact .leaf (h.nd q)
  | br q p _ ih => exact .br (h.nd q) p ih
theorem pick_mem {ps : List (Int × Int)} {v m : Int} (h : pick ps v = some m) : ∃ p ∈ ps, p.2 = m := by
  induction ps with
  | nil => cases h
  | cons q r ih =>
    obtain ⟨hi, k⟩ := q
    unfold pick at h
    split at h
    · cases h; exact ⟨_, .head _, rfl⟩
    · obtain ⟨p, hp, e⟩ := ih h; exact ⟨p, .tail _ hp, e⟩
theorem Ev.some {ns : List Node} {n : Int} {a : Int → Int} {v : Int} (e : Ev ns n a v) : (nd ns n).isSome = true := by
  cases e with
  | leaf h => rw [h]; rfl
  | br h _ _ => rw [h]; rfl
theorem Ev.back {T : List Int} {ns ns' : List Node} (h : Pre ns ns') (w : WF T ns) {n : Int} {a : Int → Int} {v : Int} (e : Ev ns' n a v) (k : (nd ns n).isSome = true) : Ev ns n a v := by
  induction e with
  | leaf q =>
    obtain ⟨k, e⟩ := Option.isSome_iff_exists.mp k
    have := h.nd e
    rw [q] at this; cases this; exact .leaf e
  | br q p _ ih =>
    obtain ⟨k, e⟩ := Option.isSome_iff_exists.mp k
    have := h.nd e
    rw [q] at this; cases this
    refine .br e p (ih ?_)
    obtain ⟨c, hc, rfl⟩ := pick_mem p
    exact ((w.ok _ _ _ e).kids c hc).1
theorem Ev.det {ns : List Node} {n : Int} {a : Int → Int} {v w : Int} (e : Ev ns n a v) (e' : Ev ns n a w) : v = w := by
  induction e with
  | leaf h =>
    cases e' with
    | leaf h' => rw [h] at h'; cases h'; rfl
    | br h' _ _ => rw [h] at h'; cases h'
  | br h p _ ih =>
    cases e' with
    | leaf h' => rw [h] at h'; cases h'
    | br h' p' e'' => rw [h] at h'; cases h'; rw [p] at p'; cases p'; exact ih e''
theorem rise_pick {ps : List (Int × Int)} {at' top v : Int} (h : Rise at' ps top) (h1 : at' < v) (h2 : v ≤ top) : ∃ m, pick ps v = some m := by
  induction ps generalizing at' with
  | nil => unfold Rise at h; (first | lia | omega)
  | cons p r ih =>
    obtain ⟨hi, k⟩ := p
    unfold Rise at h
    unfold pick
    by_cases q : v ≤ hi
    · exact ⟨k, if_pos q⟩
    · rw [if_neg q]; exact ih h.2 (by (first | lia | omega))
def okA (T : List Int) (a : Int → Int) : Prop := ∀ x, 0 ≤ x → x < 3 → 0 ≤ a x ∧ a x ≤ topOf T x
theorem lv_le {T : List Int} {ns : List Node} (w : WF T ns) (n : Int) : 0 ≤ lv ns n ∧ lv ns n ≤ 3 := by
  unfold lv
  cases h : nd ns n with
  | none => simp
  | some k =>
    cases k with
    | leaf v => simp
    | br x ps => have B := w.ok _ _ _ h; have h1 := B.x0; have h2 := B.x3; simp; (first | lia | omega)
theorem Ev.total {T : List Int} {ns : List Node} (w : WF T ns) {a : Int → Int} (ha : okA T a) : ∀ (k : Nat) (n : Int), (3 - lv ns n).toNat = k → (nd ns n).isSome = true → ∃ v, Ev ns n a v := by
  intro k
  induction k using Nat.strongRecOn with
  | _ k ih =>
    intro n hk hn
    obtain ⟨node, e⟩ := Option.isSome_iff_exists.mp hn
    cases node with
    | leaf v => exact ⟨v, .leaf e⟩
    | br x ps =>
      have b := w.ok _ _ _ e
      obtain ⟨h1, h2⟩ := ha x b.x0 b.x3
      obtain ⟨m, hm⟩ := rise_pick b.rise (v := a x) (by (first | lia | omega)) h2
      obtain ⟨p, hp, rfl⟩ := pick_mem hm
      obtain ⟨q1, q2⟩ := b.kids p hp
      have hl : lv ns n = x := by unfold lv; rw [e]
      have := lv_le w p.2
      have hx3 := b.x3
      obtain ⟨v, hv⟩ := ih (3 - lv ns p.2).toNat (by (first | lia | omega)) p.2 rfl q1
      exact ⟨v, .br e hm hv⟩
def upd (a : Int → Int) (x p : Int) : Int → Int := fun y => if y = x then p else a y
theorem upd_self {a : Int → Int} {x p : Int} : upd a x p x = p := if_pos rfl
theorem upd_ne {a : Int → Int} {x p y : Int} (h : y ≠ x) : upd a x p y = a y := if_neg h
theorem upd_ok {T : List Int} {a : Int → Int} (h : okA T a) {x p : Int} (h0 : 0 ≤ p) (h1 : p ≤ topOf T x) : okA T (upd a x p) := fun y y0 y3 => by
  by_cases q : y = x
  · subst q; rw [upd_self]; exact ⟨h0, h1⟩
  · rw [upd_ne q]; exact h y y0 y3
theorem Ev.indep {T : List Int} {ns : List Node} (w : WF T ns) {n : Int} {a b : Int → Int} {v : Int} (e : Ev ns n a v) (h : ∀ y, lv ns n ≤ y → y < 3 → a y = b y) : Ev ns n b v := by
  induction e with
  | leaf q => exact .leaf q
  | @br n a v x m ps q p _ ih =>
    have B := w.ok _ _ _ q
    have hl : lv ns n = x := by unfold lv; rw [q]
    refine .br q (by rw [← h x (by (first | lia | omega)) B.x3]; exact p) (ih fun y h1 h2 => h y ?_ h2)
    obtain ⟨c, hc, rfl⟩ := pick_mem p
    have := (B.kids c hc).2
    (first | lia | omega)
/-- two formulas with the same answers -/
def Same (T : List Int) (ns : List Node) (n m : Int) : Prop := ∀ a v w, okA T a → Ev ns n a v → Ev ns m a w → v = w
theorem Same.symm {T : List Int} {ns : List Node} {n m : Int} (h : Same T ns n m) : Same T ns m n := fun a v w ha e e' => (h a w v ha e' e).symm
theorem nodup_idx {α : Type} {l : List α} (h : l.Nodup) {i j : Nat} {x : α} (hi : l[i]? = some x) (hj : l[j]? = some x) : i = j := by
  induction l generalizing i j with
  | nil => simp at hi
  | cons y r ih =>
    rw [List.nodup_cons] at h
    cases i with
    | zero =>
      cases j with
      | zero => rfl
      | succ j =>
        simp only [List.getElem?_cons_zero, Option.some.injEq] at hi
        simp only [List.getElem?_cons_succ] at hj
        subst hi
        exact absurd (List.mem_of_getElem? hj) h.1
    | succ i =>
      cases j with
      | zero =>
        simp only [List.getElem?_cons_zero, Option.some.injEq] at hj
        simp only [List.getElem?_cons_succ] at hi
        subst hj
        exact absurd (List.mem_of_getElem? hi) h.1
      | succ j => simp only [List.getElem?_cons_succ] at hi hj; rw [ih h.2 hi hj]
theorem nd_inj {ns : List Node} (h : ns.Nodup) {n m : Int} {k : Node} (hn : nd ns n = some k) (hm : nd ns m = some k) : n = m := by
  obtain ⟨i, rfl, hi⟩ := nd_nat hn
  obtain ⟨j, rfl, hj⟩ := nd_nat hm
  rw [nodup_idx h hi hj]
theorem rise_head {h m : Int} {r : List (Int × Int)} {at' top : Int} (H : Rise at' ((h, m) :: r) top) : pick ((h, m) :: r) h = some m ∧ at' < h := by
  unfold Rise at H
  exact ⟨by unfold pick; rw [if_pos (Int.le_refl _)], H.1⟩
theorem rise_top {ps : List (Int × Int)} {at' top : Int} (H : Rise at' ps top) : at' ≤ top := by
  induction ps generalizing at' with
  | nil => unfold Rise at H; (first | lia | omega)
  | cons p r ih => obtain ⟨h, m⟩ := p; unfold Rise at H; have := ih H.2; (first | lia | omega)
/-- rising parts with differing neighbours are told by what they pick -/
theorem parts_eq {ps qs : List (Int × Int)} {at' top : Int} (hp : Rise at' ps top) (hq : Rise at' qs top) (dp : Diff ps) (dq : Diff qs) (h : ∀ v, at' < v → v ≤ top → pick ps v = pick qs v) : ps = qs := by
  induction ps generalizing at' qs with
  | nil =>
    cases qs with
    | nil => rfl
    | cons q r =>
      obtain ⟨h2, m⟩ := q
      unfold Rise at hp hq
      have := rise_top hq.2
      (first | lia | omega)
  | cons p r ih =>
    obtain ⟨h1, m1⟩ := p
    cases qs with
    | nil =>
      unfold Rise at hp hq
      have := rise_top hp.2
      (first | lia | omega)
    | cons q s =>
      obtain ⟨h2, m2⟩ := q
      unfold Rise at hp hq
      have t1 := rise_top hp.2
      have t2 := rise_top hq.2
      have e0 := h (at' + 1) (by (first | lia | omega)) (by (first | lia | omega))
      unfold pick at e0
      rw [if_pos (by (first | lia | omega)), if_pos (by (first | lia | omega))] at e0
      have em : m1 = m2 := by injection e0
      subst em
      have eh : h1 = h2 := by
        rcases Int.lt_trichotomy h1 h2 with q | q | q
        · exfalso
          have e1 := h (h1 + 1) (by (first | lia | omega)) (by (first | lia | omega))
          unfold pick at e1
          rw [if_neg (by (first | lia | omega)), if_pos (by (first | lia | omega))] at e1
          cases r with
          | nil => unfold Rise at hp; (first | lia | omega)
          | cons c r =>
            obtain ⟨h3, m3⟩ := c
            have hp2 := hp.2
            unfold Rise at hp2
            unfold pick at e1
            rw [if_pos (by (first | lia | omega))] at e1
            have : m3 = m1 := by injection e1
            exact dp.1 this.symm
        · exact q
        · exfalso
          have e1 := h (h2 + 1) (by (first | lia | omega)) (by (first | lia | omega))
          unfold pick at e1
          rw [if_pos (by (first | lia | omega)), if_neg (by (first | lia | omega))] at e1
          cases s with
          | nil => unfold Rise at hq; (first | lia | omega)
          | cons c s =>
            obtain ⟨h3, m3⟩ := c
            have hq2 := hq.2
            unfold Rise at hq2
            unfold pick at e1
            rw [if_pos (by (first | lia | omega))] at e1
            have : m1 = m3 := by injection e1
            exact dq.1 this
      subst eh
      have dp' : Diff r := by
        cases r with
        | nil => exact trivial
        | cons c r => exact dp.2
      have dq' : Diff s := by
        cases s with
        | nil => exact trivial
        | cons c s => exact dq.2
      rw [ih hp.2 hq.2 dp' dq' fun v h3 h4 => by
        have := h v (by (first | lia | omega)) h4
        unfold pick at this
        rw [if_neg (by (first | lia | omega)), if_neg (by (first | lia | omega))] at this
        exact this]
theorem diff_two {ps : List (Int × Int)} (h : 2 ≤ ps.length) (d : Diff ps) (m : Int) : ¬ ∀ p ∈ ps, p.2 = m := by
  intro q
  match ps, h, d, q with
  | p :: r :: s, _, d, q =>
    have e1 := q p (.head _)
    have e2 := q r (.tail _ (.head _))
    exact d.1 (e1.trans e2.symm)
theorem rise_mem {ps : List (Int × Int)} {at' top : Int} (H : Rise at' ps top) : ∀ p ∈ ps, at' < p.1 ∧ p.1 ≤ top ∧ pick ps p.1 = some p.2 := by
  induction ps generalizing at' with
  | nil => intro p hp; cases hp
  | cons q r ih =>
    obtain ⟨h, m⟩ := q
    intro p hp
    have H' := H
    unfold Rise at H'
    have t := rise_top H'.2
    rcases List.mem_cons.mp hp with rfl | hp
    · exact ⟨H'.1, t, (rise_head H).1⟩
    · obtain ⟨a, b, c⟩ := ih H'.2 p hp
      refine ⟨by (first | lia | omega), b, ?_⟩
      unfold pick; rw [if_neg (by (first | lia | omega))]; exact c
def zeroA : Int → Int := fun _ => 0
theorem canon {T : List Int} {ns : List Node} (w : WF T ns) (hT : ∀ x, 0 ≤ x → x < 3 → 0 ≤ topOf T x) : ∀ (k : Nat) (n m : Int), (3 - lv ns n).toNat + (3 - lv ns m).toNat = k → (nd ns n).isSome = true → (nd ns m).isSome = true → Same T ns n m → n = m := by
  intro k
  induction k using Nat.strongRecOn with
  | _ k ih =>
    -- a child of the lower one
    have side : ∀ n m x ps, nd ns n = some (.br x ps) → x < lv ns m → (nd ns m).isSome = true → (3 - lv ns n).toNat + (3 - lv ns m).toNat = k → Same T ns n m → False := by
      intro n m x ps e hx hm hk hs
      have B := w.ok _ _ _ e
      have hl : lv ns n = x := by unfold lv; rw [e]
      refine diff_two B.two B.diff m fun p hp => ?_
      obtain ⟨q1, q2⟩ := B.kids p hp
      obtain ⟨h1, h2, h3⟩ := rise_mem B.rise p hp
      have l1 := lv_le w p.2
      have l2 := lv_le w m
      have hx3 := B.x3
      refine ih ((3 - lv ns p.2).toNat + (3 - lv ns m).toNat) (by (first | lia | omega)) p.2 m rfl q1 hm ?_
      intro a v v' ha ev ev'
      have ha' := upd_ok ha (x := x) (p := p.1) (by (first | lia | omega)) h2
      have ev1 : Ev ns p.2 (upd a x p.1) v := ev.indep w fun y y1 y2 => (upd_ne (by (first | lia | omega))).symm
      have ev2 : Ev ns m (upd a x p.1) v' := ev'.indep w fun y y1 y2 => (upd_ne (by (first | lia | omega))).symm
      exact hs _ v v' ha' (.br e (by rw [upd_self]; exact h3) ev1) ev2
    intro n m hk hn hm hs
    obtain ⟨kn, en⟩ := Option.isSome_iff_exists.mp hn
    obtain ⟨km, em⟩ := Option.isSome_iff_exists.mp hm
    have za : okA T zeroA := fun x h0 h3 => ⟨Int.le_refl _, hT x h0 h3⟩
    cases kn with
    | leaf v =>
      cases km with
      | leaf v' =>
        have : v = v' := hs zeroA v v' za (.leaf en) (.leaf em)
        subst this
        exact nd_inj w.nodup en em
      | br x qs =>
        exact (side m n x qs em (by unfold lv; rw [en]; exact (w.ok _ _ _ em).x3) hn (by (first | lia | omega)) hs.symm).elim
    | br x ps =>
      have ln : lv ns n = x := by unfold lv; rw [en]
      cases km with
      | leaf v' =>
        exact (side n m x ps en (by unfold lv; rw [em]; exact (w.ok _ _ _ en).x3) hm hk hs).elim
      | br y qs =>
        have lm : lv ns m = y := by unfold lv; rw [em]
        rcases Int.lt_trichotomy x y with q | q | q
        · exact (side n m x ps en (by (first | lia | omega)) hm hk hs).elim
        · subst q
          have B := w.ok _ _ _ en
          have B' := w.ok _ _ _ em
          have : ps = qs := parts_eq B.rise B'.rise B.diff B'.diff fun v h1 h2 => by
            obtain ⟨c, hc⟩ := rise_pick B.rise h1 h2
            obtain ⟨c', hc'⟩ := rise_pick B'.rise h1 h2
            rw [hc, hc']
            obtain ⟨p, hp, rfl⟩ := pick_mem hc
            obtain ⟨p', hp', rfl⟩ := pick_mem hc'
            obtain ⟨q1, q2⟩ := B.kids p hp
            obtain ⟨q1', q2'⟩ := B'.kids p' hp'
            have l1 := lv_le w p.2
            have l2 := lv_le w p'.2
            congr 1
            refine ih ((3 - lv ns p.2).toNat + (3 - lv ns p'.2).toNat) (by have := B.x3; (first | lia | omega)) _ _ rfl q1 q1' ?_
            intro a u u' ha ev ev'
            have ha' := upd_ok ha (x := x) (p := v) (by (first | lia | omega)) h2
            have ev1 : Ev ns p.2 (upd a x v) u := ev.indep w fun y y1 y2 => (upd_ne (by (first | lia | omega))).symm
            have ev2 : Ev ns p'.2 (upd a x v) u' := ev'.indep w fun y y1 y2 => (upd_ne (by (first | lia | omega))).symm
            exact hs _ u u' ha' (.br en (by rw [upd_self]; exact hc) ev1) (.br em (by rw [upd_self]; exact hc') ev2)
          subst this
          exact nd_inj w.nodup en em
        · exact (side m n y qs em (by (first | lia | omega)) hn (by (first | lia | omega)) hs.symm).elim
end Mine
end

section
set_option Elab.async false
set_option linter.unusedVariables false
namespace Mine
theorem rise_append {a b h m : Int} {ps : List (Int × Int)} (H : Rise a ps b) (q : b < h) : Rise a (ps ++ [(h, m)]) h := by
  induction ps generalizing a with
  | nil => unfold Rise at H; subst H; simp [Rise, q]
  | cons p r ih => obtain ⟨h', m'⟩ := p; unfold Rise at H; simp only [List.cons_append]; unfold Rise; exact ⟨H.1, ih H.2⟩
theorem rise_last {a top h m : Int} {ps : List (Int × Int)} (H : Rise a (ps ++ [(h, m)]) top) : h = top ∧ ∃ b, Rise a ps b ∧ b < h := by
  induction ps generalizing a with
  | nil => simp only [List.nil_append] at H; unfold Rise at H; unfold Rise at H; exact ⟨H.2, a, rfl, H.1⟩
  | cons p r ih =>
    obtain ⟨h', m'⟩ := p
    simp only [List.cons_append] at H
    unfold Rise at H
    obtain ⟨e, b, hb, q⟩ := ih H.2
    exact ⟨e, b, by unfold Rise; exact ⟨H.1, hb⟩, q⟩
theorem pick_append {ps qs : List (Int × Int)} {v : Int} : pick (ps ++ qs) v = (pick ps v).or (pick qs v) := by
  induction ps with
  | nil => simp [pick]
  | cons p r ih =>
    obtain ⟨h, m⟩ := p
    simp only [List.cons_append]
    show (if v ≤ h then some m else pick (r ++ qs) v) = (if v ≤ h then some m else pick r v).or (pick qs v)
    split
    · rfl
    · exact ih
theorem pick_none {a b v : Int} {ps : List (Int × Int)} (H : Rise a ps b) (q : b < v) : pick ps v = none := by
  induction ps generalizing a with
  | nil => rfl
  | cons p r ih =>
    obtain ⟨h, m⟩ := p
    unfold Rise at H
    have := rise_top H.2
    unfold pick
    rw [if_neg (by (first | lia | omega))]
    exact ih H.2
theorem diff_append {ps : List (Int × Int)} {h m : Int} (d : Diff ps) (q : ∀ p, ps.getLast? = some p → p.2 ≠ m) : Diff (ps ++ [(h, m)]) := by
  induction ps with
  | nil => exact trivial
  | cons p r ih =>
    cases r with
    | nil => exact ⟨q p rfl, trivial⟩
    | cons c s => exact ⟨d.1, ih d.2 fun x hx => q x (by rw [List.getLast?_cons_cons]; exact hx)⟩
theorem diff_last {ps : List (Int × Int)} {h h' m : Int} (d : Diff (ps ++ [(h, m)])) : Diff (ps ++ [(h', m)]) := by
  induction ps with
  | nil => exact trivial
  | cons p r ih =>
    cases r with
    | nil => exact ⟨d.1, trivial⟩
    | cons c s => exact ⟨d.1, ih d.2⟩
def jstep (acc : List (Int × Int)) (p : Int × Int) : List (Int × Int) := match acc.getLast? with
  | some q => if q.2 = p.2 then acc.dropLast ++ [p] else acc ++ [p]
  | none => [p]
structure Joined (pre js : List (Int × Int)) (at' : Int) : Prop where
  rise : Rise (-1) js at'
  diff : Diff js
  pk : ∀ v, pick js v = pick pre v
  sub : ∀ p ∈ js, ∃ q ∈ pre, q.2 = p.2
  ne : pre ≠ [] → js ≠ []
theorem Joined.nil : Joined [] [] (-1) := ⟨rfl, trivial, fun _ => rfl, (fun _ h => by cases h), fun h => absurd rfl h⟩
theorem last_split {α : Type} {l : List α} {q : α} (h : l.getLast? = some q) : ∃ l', l = l' ++ [q] := by
  rw [List.getLast?_eq_some_iff] at h
  exact h
theorem Joined.step {pre js : List (Int × Int)} {at' : Int} (J : Joined pre js at') {p : Int × Int} (h : at' < p.1) : Joined (pre ++ [p]) (jstep js p) p.1 := by
  obtain ⟨hi, m⟩ := p
  unfold jstep
  cases e : js.getLast? with
  | none =>
    have : js = [] := List.getLast?_eq_none_iff.mp e
    subst this
    have hr := J.rise
    unfold Rise at hr
    subst hr
    refine ⟨⟨h, rfl⟩, trivial, fun v => ?_, fun x hx => ?_, fun _ => by simp⟩
    · rw [pick_append, ← J.pk]; simp [pick]
    · simp at hx; subst hx; exact ⟨(hi, m), by simp, rfl⟩
  | some q =>
    obtain ⟨hq, mq⟩ := q
    obtain ⟨l, rfl⟩ := last_split e
    obtain ⟨e1, b, hb, hlt⟩ := rise_last J.rise
    subst e1
    dsimp only
    by_cases c : mq = m
    · rw [if_pos c]
      subst c
      rw [List.dropLast_concat]
      dsimp only at h
      refine ⟨rise_append hb (by (first | lia | omega)), diff_last J.diff, fun v => ?_, fun x hx => ?_, fun _ => by simp⟩
      · rw [pick_append, pick_append, ← J.pk v, pick_append]
        cases pick l v with
        | some _ => simp
        | none =>
          simp only [Option.none_or]
          unfold pick
          by_cases q1 : v ≤ hq
          · rw [if_pos (by (first | lia | omega)), if_pos q1]; rfl
          · rw [if_neg q1]; simp [pick]
      · rcases List.mem_append.mp hx with hx | hx
        · obtain ⟨q, hq, e⟩ := J.sub x (List.mem_append_left _ hx)
          exact ⟨q, List.mem_append_left _ hq, e⟩
        · simp at hx; subst hx; exact ⟨(hi, mq), by simp, rfl⟩
    · rw [if_neg c]
      refine ⟨rise_append J.rise h, diff_append J.diff fun p hp => ?_, fun v => ?_, fun x hx => ?_, fun _ => by simp⟩
      · rw [e] at hp; cases hp; exact c
      · rw [pick_append (ps := l ++ [(hq, mq)]), pick_append (ps := pre), J.pk]
      · rcases List.mem_append.mp hx with hx | hx
        · obtain ⟨q, hq, e⟩ := J.sub x hx
          exact ⟨q, List.mem_append_left _ hq, e⟩
        · simp at hx; subst hx; exact ⟨(hi, m), by simp, rfl⟩

/- growing -/
structure ChOk (T : List Int) (ns : List Node) (c y n r : Int) : Prop where
  vc : (nd ns c).isSome = true
  vy : (nd ns y).isSome = true
  vn : (nd ns n).isSome = true
  vr : (nd ns r).isSome = true
  lr : lv ns c ≤ lv ns r ∨ lv ns y ≤ lv ns r ∨ lv ns n ≤ lv ns r
  ev : ∀ a t v, okA T a → Ev ns c a t → Ev ns (if t = 1 then y else n) a v → Ev ns r a v
theorem ChOk.mono {T : List Int} {ns ns' : List Node} (w : WF T ns) (h : Pre ns ns') {c y n r : Int} (x : ChOk T ns c y n r) : ChOk T ns' c y n r where
  vc := h.some x.vc
  vy := h.some x.vy
  vn := h.some x.vn
  vr := h.some x.vr
  lr := by rw [h.lv x.vc, h.lv x.vy, h.lv x.vn, h.lv x.vr]; exact x.lr
  ev := fun a t v ha e1 e2 => (x.ev a t v ha (e1.back h w x.vc) (e2.back h w (by split; exact x.vy; exact x.vn))).mono h
structure Inv (T : List Int) (D : Dg) : Prop where
  wf : WF T D.nodes
  memo : ∀ e ∈ D.memo, ∃ c y n, e.1 = [c, y, n] ∧ ChOk T D.nodes c y n e.2
structure Grow (T : List Int) (D D' : Dg) (g : Nat) : Prop where
  inv : Inv T D'
  pre : Pre D.nodes D'.nodes
  sz : D'.nodes.length + D'.memo.length ≤ D.nodes.length + D.memo.length + g
theorem Grow.refl {T : List Int} {D : Dg} (h : Inv T D) : Grow T D D 0 := ⟨h, Pre.refl _, Nat.le_refl _⟩
theorem Grow.trans {T : List Int} {D D' D'' : Dg} {g g' : Nat} (x : Grow T D D' g) (y : Grow T D' D'' g') : Grow T D D'' (g + g') := ⟨y.inv, x.pre.trans y.pre, by have := x.sz; have := y.sz; (first | lia | omega)⟩
theorem Grow.le {T : List Int} {D D' : Dg} {g g' : Nat} (x : Grow T D D' g) (h : g ≤ g') : Grow T D D' g' := ⟨x.inv, x.pre, Nat.le_trans x.sz (by (first | lia | omega))⟩
theorem keepN_pre {ns : List Node} {k : Node} : Pre ns (keepN ns k) := by
  unfold keepN; split
  · exact Pre.refl _
  · exact ⟨[k], rfl⟩
theorem keepN_len {ns : List Node} {k : Node} : (keepN ns k).length ≤ ns.length + 1 := by
  unfold keepN; split <;> simp
theorem keepN_mem {ns : List Node} {k : Node} : k ∈ keepN ns k := by
  unfold keepN; split
  · assumption
  · simp
theorem keepN_nd {ns : List Node} {k : Node} : nd (keepN ns k) ((keepN ns k).idxOf k : Nat) = some k := by
  refine nd_of ?_
  have := List.idxOf_lt_length_of_mem (keepN_mem (ns := ns) (k := k))
  rw [List.getElem?_eq_getElem this, List.getElem_idxOf]
theorem keepN_nodup {ns : List Node} {k : Node} (h : ns.Nodup) : (keepN ns k).Nodup := by
  unfold keepN; split
  · exact h
  · rename_i q
    rw [List.nodup_append]
    refine ⟨h, by simp, fun a ha b hb => ?_⟩
    simp at hb; subst hb
    rintro rfl; exact q ha
theorem BrOk.mono {T : List Int} {ns ns' : List Node} (h : Pre ns ns') {x : Int} {ps : List (Int × Int)} (b : BrOk T ns x ps) : BrOk T ns' x ps :=
  ⟨b.x0, b.x3, b.rise, b.diff, b.two, fun p hp => by obtain ⟨q1, q2⟩ := b.kids p hp; exact ⟨h.some q1, by rw [h.lv q1]; exact q2⟩⟩
theorem keepN_old {ns : List Node} {k k' : Node} {n : Int} (h : nd (keepN ns k) n = some k') : nd ns n = some k' ∨ k' = k := by
  unfold keepN at h
  split at h
  · exact .inl h
  · obtain ⟨m, rfl, e⟩ := nd_nat h
    by_cases q : m < ns.length
    · rw [List.getElem?_append_left q] at e; exact .inl (nd_of e)
    · rw [List.getElem?_append_right (by (first | lia | omega))] at e
      have := List.mem_of_getElem? e
      simp at this; exact .inr this
theorem Grow.keep {T : List Int} {D : Dg} {k : Node} (I : Inv T D) (hk : ∀ x ps, k = .br x ps → BrOk T D.nodes x ps) : Grow T D { D with nodes := keepN D.nodes k } 1 where
  inv := ⟨⟨keepN_nodup I.wf.nodup, fun n x ps e => by
      rcases keepN_old e with e | e
      · exact (I.wf.ok n x ps e).mono keepN_pre
      · exact (hk x ps e.symm).mono keepN_pre⟩, fun e he => by
      obtain ⟨c, y, n, h1, h2⟩ := I.memo e he
      exact ⟨c, y, n, h1, h2.mono I.wf keepN_pre⟩⟩
  pre := keepN_pre
  sz := by have := keepN_len (ns := D.nodes) (k := k); dsimp only; (first | lia | omega)
/-- what make answers -/
structure Made (T : List Int) (D D' : Dg) (x : Int) (parts : List (Int × Int)) (r : Int) : Prop where
  grow : Grow T D D' 1
  v : (nd D'.nodes r).isSome = true
  l : x ≤ lv D'.nodes r
  ev : ∀ a m v, pick parts (a x) = some m → Ev D'.nodes m a v → Ev D'.nodes r a v
theorem made_one {T : List Int} {D : Dg} {x h m : Int} {parts : List (Int × Int)} (I : Inv T D) (J : Joined parts [(h, m)] (topOf T x)) (hk : ∀ p ∈ parts, (nd D.nodes p.2).isSome = true ∧ x < lv D.nodes p.2) : Made T D D x parts m := by
  obtain ⟨q, hq, e⟩ := J.sub (h, m) (.head _)
  dsimp only at e
  obtain ⟨k1, k2⟩ := hk q hq
  rw [e] at k1 k2
  refine ⟨(Grow.refl I).le (by (first | lia | omega)), k1, by (first | lia | omega), fun a m' v hp hev => ?_⟩
  rw [← J.pk] at hp
  unfold pick at hp
  split at hp
  · cases hp; exact hev
  · cases hp
theorem made_new {T : List Int} {D : Dg} {x : Int} {parts js : List (Int × Int)} (I : Inv T D) (x0 : 0 ≤ x) (x3 : x < 3) (J : Joined parts js (topOf T x)) (hne : parts ≠ []) (h1 : js.length ≠ 1) (hk : ∀ p ∈ parts, (nd D.nodes p.2).isSome = true ∧ x < lv D.nodes p.2) :
    Made T D { D with nodes := keepN D.nodes (.br x js) } x parts ((keepN D.nodes (.br x js)).idxOf (.br x js) : Nat) := by
  have hB : BrOk T D.nodes x js := ⟨x0, x3, J.rise, J.diff, by
    have := J.ne hne
    cases js with
    | nil => exact absurd rfl this
    | cons p r => cases r with
      | nil => exact absurd rfl h1
      | cons _ _ => simp, fun p hp => by
    obtain ⟨q, hq, e⟩ := J.sub p hp
    rw [← e]; exact hk q hq⟩
  have e := keepN_nd (ns := D.nodes) (k := .br x js)
  refine ⟨Grow.keep I fun y ps e => ?_, by rw [e]; rfl, by unfold lv; rw [e]; exact Int.le_refl _, fun a m v hp hev => .br e (by rw [J.pk]; exact hp) hev⟩
  cases e; exact hB
end Mine
end

section
open PySem PySem.W PyProof.Rows PySem.Calls
set_option Elab.async false
set_option maxRecDepth 100000
set_option linter.unusedVariables false
namespace Mine
section
variable {C : Cx} {f : Fm} {st : St} {G : Gd} {D : Dg} {H : Addr → Option AO} {d : Nat} {Q : V → (Addr → Option AO) → Prop}
theorem tops_get (ht : G.tops.length = 3) {x : Int} (h0 : 0 ≤ x) (h3 : x < 3) : (G.tops.map V.int)[x.toNat]? = some (.int (topOf G.tops x)) := by
  have : x.toNat < G.tops.length := by (first | lia | omega)
  unfold topOf
  simp [this]
theorem sub_tops (ht : G.tops.length = 3) {x : Int} (h0 : 0 ≤ x) (h3 : x < 3) : SubOk C (V.ints G.tops) (.int x) H (.int (topOf G.tops x)) :=
  sub_tup0 h0 (by (first | lia | omega)) (tops_get ht h0 h3)
theorem last_V {js : List (Int × Int)} {q : Int × Int} (h : js.getLast? = some q) : (js.map V.pair)[((-1 : Int) + (js.map V.pair).length).toNat]? = some (V.pair q) := by
  obtain ⟨l, rfl⟩ := last_split h
  have : ((-1 : Int) + ((l ++ [q]).map V.pair).length).toNat = (l.map V.pair).length := by simp; (first | lia | omega)
  rw [this]; simp
theorem set_last {js : List (Int × Int)} {p : Int × Int} {q : Int × Int} (h : js.getLast? = some q) : (js.map V.pair).set ((-1 : Int) + (js.map V.pair).length).toNat (V.pair p) = (js.dropLast ++ [p]).map V.pair := by
  obtain ⟨l, rfl⟩ := last_split h
  have : ((-1 : Int) + ((l ++ [q]).map V.pair).length).toNat = (l.map V.pair).length := by simp; (first | lia | omega)
  rw [this]; simp
structure MkI (G : Gd) (D : Dg) (H : Addr → Option AO) (x : Int) (parts : List (Int × Int)) (j : Addr) (i : Nat) (st : St) : Prop where
  ms : st.m "self" = some G.val
  mv : st.m "variable" = some (.int x)
  mj : st.m "joined" = some (.raw (.ref j))
  mt : st.m "top" = some (.int (topOf G.tops x))
  e : ∃ js at', A5 (st.m "at" = some (.int at')) (st.H = hput (DH G D H) j (.list (js.map V.pair))) (Joined (parts.take i) js at') (Rise at' (parts.drop i) (topOf G.tops x)) (js.length ≤ i)
theorem c_make (o : G.Ok) (ht : G.tops.length = 3) (I : Inv G.tops D) (hn : D.nodes.length ≤ 2 ^ 20 - 1) {x : Int} {parts : List (Int × Int)} (x0 : 0 ≤ x) (x3 : x < 3) (hr : Rise (-1) parts (topOf G.tops x)) (hne : parts ≠ []) (hl : parts.length ≤ 1000)
    (hk : ∀ p ∈ parts, (nd D.nodes p.2).isSome = true ∧ x < lv D.nodes p.2) (q : ∀ r D', Made G.tops D D' x parts r → Q (.int r) (DH G D' H)) : Fn C 3 (.ref 88) [G.val, .int x, .lst (parts.map V.pair)] (DH G D H) Q := by
  refine fn_plain def_make rfl (by kernel_rfl) ?_
  conv => arg 3; whnf
  conv => arg 2; arg 1; whnf
  refine ax_cons (ax1_assign (aw_listH (aws_nil ⟨by simp, fun j hj => aas_local ?_⟩)))
  refine ax_cons (ax1_assign (aw_sub (aw_tops (aw_local rfl ⟨rfl, aw_local rfl ⟨_, sub_tops ht x0 x3, aas_local ?_⟩⟩)) (by decide)))
  refine ax_cons (ax1_assign (aw_neg (aw_int ⟨_, rfl, aas_local ?_⟩)))
  obtain ⟨n1, n2, n3, hj0⟩ := DH_none o hj
  refine ax_cons (ax1_for (awI_lst (aw_local rfl ⟨_, rfl, .inl ⟨_, _, _, rfl⟩, MkI G D H x parts j, ⟨rfl, rfl, rfl, rfl, [], -1, rfl, rfl, Joined.nil, hr, Nat.le_refl _⟩, ?_, ?_⟩)))
  · intro i u st₂ hi hI
    obtain ⟨js, at', e1, e2, J, R, hjl⟩ := hI.e
    rw [List.getElem?_map, Option.map_eq_some_iff] at hi
    obtain ⟨p, hp, rfl⟩ := hi
    have hdrop : parts.drop i = p :: parts.drop (i + 1) := by
      obtain ⟨hlt, rfl⟩ := List.getElem?_eq_some_iff.mp hp
      exact List.drop_eq_getElem_cons hlt
    have htake : parts.take (i + 1) = parts.take i ++ [p] := by rw [List.take_add_one, hp]; rfl
    obtain ⟨hi', m⟩ := p
    rw [hdrop] at R
    have R' := R
    unfold Rise at R'
    have J' := J.step (p := (hi', m)) R'.1
    have hil : i < parts.length := (List.getElem?_eq_some_iff.mp hp).1
    have hjs : (jstep js (hi', m)).length ≤ i + 1 := by
      unfold jstep; split
      · split
        · simp; (first | lia | omega)
        · simp; (first | lia | omega)
      · simp
    refine aas_tup (us := [.int hi', .int m]) (aas_local (aas_local ?_)) rfl
    refine ax_cons (ax1_assign (aw_ite (at_cmp (aw_local rfl (aw_local e1 ⟨_, cmp_gt, fun _ => aw_local rfl (aas_local ?_), fun e => absurd (of_decide_eq_false e) (by (first | lia | omega))⟩)))))
    have hH : st₂.H j = some (.list (js.map V.pair)) := by rw [e2]; exact hput_self
    have hc : ∀ b : Bool, b = true ∨ b = false := by decide
    refine ax_cons (ax1_if (at_and (at_cmp (aw_call keeps1_builtin (aw_builtin n_len rfl ⟨rfl, aws_cons (aw_local hI.mj (aws_nil (fn_len_H hH (by simp; (first | lia | omega)) ?_)))⟩)))))
    refine aw_int ⟨_, cmp_gt, fun e => ⟨fun e => (by cases e), fun _ => ?_⟩, fun e => ?_⟩
    · have hj0 : js = [] := by
        have := of_decide_eq_false e
        cases js with
        | nil => rfl
        | cons _ _ => simp at this
      subst hj0
      refine ax_cons (ax1_expr ?_ (by intro _ e; unfold interactive; rw [e]; rfl))
      refine aw_meth (aw_local hI.mj ⟨.builtin "list.append", _, keeps1_builtin, meth_list hH F.slot_list_append rfl, aws_cons (aw_tup (aws_cons (aw_local rfl (aws_cons (aw_local rfl (aws_nil ⟨by simp, aws_nil ?_⟩))))))⟩)
      refine fn_append hH (by simp) (ax_nil (ax_nil ⟨hI.ms, hI.mv, hI.mj, hI.mt, _, hi', rfl, ?_, by rw [htake]; exact J', R'.2, hjs⟩))
      rw [e2, hput_put]; rfl
    · have hj0 : js ≠ [] := by
        rintro rfl; have := of_decide_eq_true e; simp at this
      obtain ⟨lq, hlq⟩ : ∃ q, js.getLast? = some q := ⟨_, List.getLast?_eq_some_getLast hj0⟩
      have hlen : 0 < js.length := List.length_pos_iff.mpr hj0
      refine at_cmp (aw_sub (aw_sub (aw_local hI.mj (aw_neg (aw_int ⟨_, rfl, _, sub_HN hH (by decide) (by simp; (first | lia | omega)) (by decide) (last_V hlq), aw_int ⟨_, sub_tup0 (by decide) (by decide) rfl, aw_local rfl ⟨_, cmp_eq, ?_⟩⟩⟩))) (by decide)) (by decide))
      refine ⟨fun e => ?_, fun e => ?_⟩
      · have em : lq.2 = m := by simpa using e
        have ej : jstep js (hi', m) = js.dropLast ++ [(hi', m)] := by unfold jstep; rw [hlq]; simp [em]
        refine ax_cons (ax1_assign (aw_tup (aws_cons (aw_local rfl (aws_cons (aw_local rfl (aws_nil ⟨by simp, ?_⟩)))))))
        refine aas_sub (aw_local hI.mj (aw_neg (aw_int ⟨_, rfl, j, _, _, rfl, hH, set_listN (by decide) (by simp; (first | lia | omega)) (by decide), ?_⟩))) (by decide)
        refine ax_nil (ax_nil ⟨hI.ms, hI.mv, hI.mj, hI.mt, _, hi', rfl, ?_, by rw [htake]; exact J', R'.2, hjs⟩)
        try dsimp only [conU, fnQ, fnM, outQ, nx, asQ, retQ, nexQ, endQ, flV]
        rw [e2, hput_put, ej, ← set_last hlq]; rfl
      · have em : lq.2 ≠ m := by simpa using e
        have ej : jstep js (hi', m) = js ++ [(hi', m)] := by unfold jstep; rw [hlq]; simp [em]
        refine ax_cons (ax1_expr ?_ (by intro _ e; unfold interactive; rw [e]; rfl))
        refine aw_meth (aw_local hI.mj ⟨.builtin "list.append", _, keeps1_builtin, meth_list hH F.slot_list_append rfl, aws_cons (aw_tup (aws_cons (aw_local rfl (aws_cons (aw_local rfl (aws_nil ⟨by simp, aws_nil ?_⟩))))))⟩)
        refine fn_append hH (by simp; (first | lia | omega)) (ax_nil (ax_nil ⟨hI.ms, hI.mv, hI.mj, hI.mt, _, hi', rfl, ?_, by rw [htake]; exact J', R'.2, hjs⟩))
        try dsimp only [conU, fnQ, fnM, outQ, nx, asQ, retQ, nexQ, endQ, flV]
        rw [e2, hput_put, ej, List.map_append]; rfl
  · intro st₂ hI
    obtain ⟨js, at', e1, e2, J, R, hjl⟩ := hI.e
    have hlen : (parts.map V.pair).length = parts.length := by simp
    rw [hlen, List.take_length] at J
    rw [hlen, List.drop_length] at R
    unfold Rise at R
    subst R
    rw [hlen] at hjl
    have hH : st₂.H j = some (.list (js.map V.pair)) := by rw [e2]; exact hput_self
    refine ax_cons (ax1_if (at_cmp (aw_local e1 (aw_local hI.mt ⟨_, cmp_ne, fun e => (by simp at e), fun _ => ax_nil ?_⟩))))
    have hjne := J.ne hne
    refine ax_cons (ax1_if (at_cmp (aw_call keeps1_builtin (aw_builtin n_len rfl ⟨rfl, aws_cons (aw_local hI.mj (aws_nil (fn_len_H hH (by simp; (first | lia | omega)) ?_)))⟩))))
    refine aw_int ⟨_, cmp_eq, fun e => ?_, fun e => ?_⟩
    · have h1 : js.length = 1 := by simp at e; (first | lia | omega)
      obtain ⟨⟨hi', m⟩, rfl⟩ := List.length_eq_one_iff.mp h1
      have hh := J.rise
      unfold Rise at hh
      obtain ⟨_, hh2⟩ := hh
      unfold Rise at hh2
      subst hh2
      refine ax_cons (ax1_ret (aw_sub (aw_sub (aw_freeze (aw_local hI.mj ⟨j, _, rfl, hH, aw_int ⟨_, sub_lst (by decide) (by decide) rfl, aw_int ⟨_, sub_tup0 (by decide) (by decide) rfl, ?_⟩⟩⟩)) (by decide)) (by decide)))
      try dsimp only [conU, fnQ, fnM, outQ, nx, asQ, retQ, nexQ, endQ, flV]
      rw [e2, hdel_put hj]
      exact q m D (made_one I J hk)
    · have h1 : js.length ≠ 1 := by simp at e; (first | lia | omega)
      refine ax_nil (ax_cons (ax1_ret (aw_meth (aw_local hI.ms ⟨.ref 74, _, keep_kept, meth_inst pg_kept find_kept ty_kept rfl, ?_⟩))))
      refine aws_cons (aw_tup (aws_cons (aw_local hI.mv (aws_cons ?_))))
      refine aw_call keeps1_type (aw_builtin n_tuple rfl ⟨rfl, aws_cons (aw_freeze (aw_local hI.mj ⟨j, _, rfl, hH, aws_nil ?_⟩))⟩)
      refine fn_tuple_lst (by simp; (first | lia | omega)) (aws_nil ⟨by simp, aws_nil ?_⟩)
      try dsimp only [conU, fnQ, fnM, outQ, nx, asQ, retQ, nexQ, endQ, flV]
      rw [e2, hdel_put hj]
      exact c_kept o (by (first | lia | omega)) (k := .br x js) (q _ _ (made_new I x0 x3 J hne h1 hk))
end
end Mine
end

section
open PySem PySem.W PyProof.Rows PySem.Calls
set_option Elab.async false
set_option maxRecDepth 100000
set_option linter.unusedVariables false
namespace Mine
def partsAt (T : List Int) (ns : List Node) (n x : Int) : List (Int × Int) := match nd ns n with
  | some (.br y ps) => if y = x then ps else [(topOf T x, n)]
  | _ => [(topOf T x, n)]
section
variable {C : Cx} {f : Fm} {st : St} {G : Gd} {D : Dg} {H : Addr → Option AO} {d : Nat} {Q : V → (Addr → Option AO) → Prop}
theorem m_node (o : G.Ok) (hn : D.nodes.length ≤ 2 ^ 20) (hd : 2 ≤ d) {n : Int} {k : Node} (h : nd D.nodes n = some k) (q : Q k.toV (DH G D H)) : Fn C d (.ref 95) [G.val, .int n] (DH G D H) Q := by
  obtain ⟨m, rfl, h⟩ := nd_nat h
  exact (c_node o hn h q).le hd
theorem m_level (o : G.Ok) (hn : D.nodes.length ≤ 2 ^ 20) (ht : G.tops.length = 3) (hd : 2 ≤ d) {n : Int} (h : (nd D.nodes n).isSome = true) (q : Q (.int (lv D.nodes n)) (DH G D H)) : Fn C d (.ref 102) [G.val, .int n] (DH G D H) Q := by
  obtain ⟨k, h⟩ := Option.isSome_iff_exists.mp h
  obtain ⟨m, rfl, h'⟩ := nd_nat h
  refine (c_level o hn ht h' ?_).le hd
  unfold lv at q
  rw [h] at q
  cases k with
  | leaf v => unfold lvl; rw [ht]; exact q
  | br x ps => exact q
theorem c_parts_at (o : G.Ok) (hn : D.nodes.length ≤ 2 ^ 20) (ht : G.tops.length = 3) {n x : Int} (x0 : 0 ≤ x) (x3 : x < 3) (h : (nd D.nodes n).isSome = true) (q : Q (.tup ((partsAt G.tops D.nodes n x).map V.pair)) (DH G D H)) : Fn C 3 (.ref 116) [G.val, .int n, .int x] (DH G D H) Q := by
  obtain ⟨k, h⟩ := Option.isSome_iff_exists.mp h
  refine fn_plain def_parts_at rfl (by kernel_rfl) ?_
  conv => arg 3; whnf
  conv => arg 2; arg 1; whnf
  unfold partsAt at q
  rw [h] at q
  have other : ∀ (st : St), st.m "diagrams" = some G.val → st.m "number" = some (.int n) → st.m "variable" = some (.int x) → st.H = DH G D H → Q (.tup ([(topOf G.tops x, n)].map V.pair)) (DH G D H) →
      Q (.tup [.tup [.int (topOf G.tops x), .int n]]) st.H := fun st _ _ _ e q => by rw [e]; exact q
  refine ax_cons (ax1_assign (aw_meth (aw_local (u := G.val) rfl ⟨.ref 95, _, keep_node, meth_inst pg_node find_node ty_node rfl, aws_cons (aw_local rfl (aws_nil (m_node o hn (by decide) h ?_)))⟩)))
  cases k with
  | leaf v =>
    refine aas_tup (us := [.str "leaf", .int v]) (aas_local (aas_local ?_)) rfl
    refine ax_cons (ax1_if (at_cmp (aw_local rfl (aw_local (u := .int x) rfl ⟨_, cmp_eq_si, fun e => (by cases e), fun _ => ax_nil ?_⟩))))
    refine ax_cons (ax1_ret (aw_tup (aws_cons (aw_tup (aws_cons (aw_sub (aw_tops (aw_local (u := G.val) rfl ⟨rfl, aw_local (u := .int x) rfl ⟨_, sub_tops ht x0 x3, ?_⟩⟩)) (by decide)))))))
    exact aws_cons (aw_local (u := .int n) rfl (aws_nil ⟨by simp, aws_nil ⟨by simp, q⟩⟩))
  | br y ps =>
    refine aas_tup (us := [.int y, .tup (ps.map V.pair)]) (aas_local (aas_local ?_)) rfl
    refine ax_cons (ax1_if (at_cmp (aw_local rfl (aw_local (u := .int x) rfl ⟨_, cmp_eq, fun e => ?_, fun e => ax_nil ?_⟩))))
    · have e : y = x := by simpa using e
      dsimp only at q
      rw [if_pos e] at q
      exact ax_cons (ax1_ret (aw_local rfl q))
    · have e : y ≠ x := by simpa using e
      dsimp only at q
      rw [if_neg e] at q
      refine ax_cons (ax1_ret (aw_tup (aws_cons (aw_tup (aws_cons (aw_sub (aw_tops (aw_local (u := G.val) rfl ⟨rfl, aw_local (u := .int x) rfl ⟨_, sub_tops ht x0 x3, ?_⟩⟩)) (by decide)))))))
      exact aws_cons (aw_local (u := .int n) rfl (aws_nil ⟨by simp, aws_nil ⟨by simp, q⟩⟩))
theorem c_below {ps : List (Int × Int)} {v m : Int} (h : pick ps v = some m) (q : Q (.int m) H) : Fn C 2 (.ref 128) [.tup (ps.map V.pair), .int v] H Q := by
  refine fn_plain def_below rfl (by kernel_rfl) ?_
  conv => arg 3; whnf
  conv => arg 2; arg 1; whnf
  refine ax_cons (ax1_for (awI_tup (aw_local rfl ⟨_, rfl, .inl ⟨_, _, _, rfl⟩, fun i st => A3 (st.m "value" = some (.int v)) (st.H = H) (pick (ps.drop i) v = some m), ⟨rfl, rfl, h⟩, ?_, ?_⟩)))
  · rintro i u st₂ hi ⟨h1, h2, h3⟩
    rw [List.getElem?_map, Option.map_eq_some_iff] at hi
    obtain ⟨⟨hh, k⟩, hp, rfl⟩ := hi
    have hdrop : ps.drop i = (hh, k) :: ps.drop (i + 1) := by
      obtain ⟨hlt, e⟩ := List.getElem?_eq_some_iff.mp hp
      rw [← e]; exact List.drop_eq_getElem_cons hlt
    rw [hdrop] at h3
    unfold pick at h3
    refine aas_tup (us := [.int hh, .int k]) (aas_local (aas_local ?_)) rfl
    refine ax_cons (ax1_if (at_cmp (aw_local h1 (aw_local rfl ⟨_, cmp_le, fun e => ?_, fun e => ax_nil ?_⟩))))
    · rw [if_pos (of_decide_eq_true e)] at h3
      cases h3
      refine ax_cons (ax1_ret (aw_local rfl ?_))
      show Q _ st₂.H
      rw [h2]; exact q
    · rw [if_neg (of_decide_eq_false e)] at h3
      exact ax_nil ⟨h1, h2, h3⟩
  · rintro st₂ ⟨h1, h2, h3⟩
    rw [show (ps.map V.pair).length = ps.length by simp, List.drop_length] at h3
    cases h3
structure VaI (G : Gd) (D : Dg) (H : Addr → Option AO) (a : Int → Int) (vs : List Int) (v : Int) (k : Nat) (st : St) : Prop where
  d : st.m "diagrams" = some G.val
  vs : st.m "values" = some (.lst (vs.map .int))
  h : st.H = DH G D H
  n : ∃ n x y, A5 ((3 - lv D.nodes n).toNat = k) (Ev D.nodes n a v) (st.m "head" = some x) (st.m "about" = some y) (((x = .str "leaf" ∧ y = .int v) ∨ ∃ z ps, x = .int z ∧ y = .tup (ps.map V.pair) ∧ nd D.nodes n = some (.br z ps)))
theorem VaI.of {a : Int → Int} {vs : List Int} {v n : Int} {st : St} {x y : V} (h : Ev D.nodes n a v) (h1 : st.m "diagrams" = some G.val) (h2 : st.m "values" = some (.lst (vs.map .int))) (h3 : st.H = DH G D H) {k : Node} (hk : nd D.nodes n = some k) (e : k.toV = .tup [x, y]) (h4 : st.m "head" = some x) (h5 : st.m "about" = some y) :
    VaI G D H a vs v ((3 - lv D.nodes n).toNat) st := by
  refine ⟨h1, h2, h3, n, x, y, rfl, h, h4, h5, ?_⟩
  cases h with
  | leaf q =>
    rw [hk] at q; cases q
    cases e; exact .inl ⟨rfl, rfl⟩
  | br q _ _ =>
    rw [hk] at q; cases q
    cases e; exact .inr ⟨_, _, rfl, rfl, hk⟩
theorem toV_two (k : Node) : ∃ x y, k.toV = .tup [x, y] := by cases k <;> exact ⟨_, _, rfl⟩
theorem c_value_at (o : G.Ok) (hn : D.nodes.length ≤ 2 ^ 20) (w : WF G.tops D.nodes) {a : Int → Int} {vs : List Int} {v n : Int} (h : Ev D.nodes n a v) (hv : ∀ x, 0 ≤ x → x < 3 → vs[x.toNat]? = some (a x)) (q : Q (.int v) (DH G D H)) : Fn C 3 (.ref 135) [G.val, .int n, .lst (vs.map .int)] (DH G D H) Q := by
  obtain ⟨k, hk⟩ := Option.isSome_iff_exists.mp h.some
  refine fn_plain def_value_at rfl (by kernel_rfl) ?_
  conv => arg 3; whnf
  conv => arg 2; arg 1; whnf
  refine ax_cons (ax1_assign (aw_meth (aw_local (u := G.val) rfl ⟨.ref 95, _, keep_node, meth_inst pg_node find_node ty_node rfl, aws_cons (aw_local rfl (aws_nil (m_node o hn (by decide) hk ?_)))⟩)))
  obtain ⟨x, y, exy⟩ := toV_two k
  rw [exy]
  refine aas_tup (aas_local (aas_local ?_)) rfl
  refine ax_cons (ax1_while (VaI G D H a vs v) _ (VaI.of h rfl rfl rfl hk exy rfl rfl) ?_)
  rintro m st₁ ⟨h1, h2, h3, n', x', y', e1, e2, e3, e4, e5⟩
  rcases e5 with ⟨rfl, rfl⟩ | ⟨z, ps, rfl, rfl, e6⟩
  · refine at_cmp (aw_local e3 (aw_str ⟨_, cmp_ne_ss, fun e => (by simp at e), fun _ => ?_⟩))
    refine ax_cons (ax1_ret (aw_local e4 ?_))
    show Q _ st₁.H
    rw [h3]; exact q
  · refine at_cmp (aw_local e3 (aw_str ⟨_, cmp_ne_is, fun _ => ?_, fun e => (by cases e)⟩))
    have B := w.ok _ _ _ e6
    cases e2 with
    | leaf q => rw [e6] at q; cases q
    | @br _ _ _ x' m' ps' q p e =>
      rw [e6] at q; cases q
      obtain ⟨c, hc, rfl⟩ := pick_mem p
      obtain ⟨b1, b2⟩ := B.kids c hc
      obtain ⟨kc, hkc⟩ := Option.isSome_iff_exists.mp b1
      refine ax_cons (ax1_assign (aw_meth (aw_local h1 ⟨.ref 95, _, keep_node, meth_inst pg_node find_node ty_node rfl, aws_cons ?_⟩)))
      refine aw_call keep_below (aw_global g_below ⟨rfl, aws_cons (aw_local e4 (aws_cons (aw_sub (aw_local h2 (aw_local e3 ⟨.int (a z), sub_lst B.x0 (by have := B.x3; (first | lia | omega)) ?_, aws_nil ?_⟩)) (by decide))))⟩)
      · rw [List.getElem?_map, hv z B.x0 B.x3]; rfl
      · refine c_below p (aws_nil ?_)
        try dsimp only [conU, fnQ, fnM, outQ, nx, asQ, retQ, nexQ, endQ, flV]
        rw [h3]
        refine m_node o hn (by decide) hkc ?_
        obtain ⟨x, y, exy⟩ := toV_two kc
        rw [exy]
        refine aas_tup (aas_local (aas_local ?_)) rfl
        refine ax_nil ⟨_, ?_, VaI.of e h1 h2 rfl hkc exy rfl rfl⟩
        have hl : lv D.nodes n' = z := by unfold lv; rw [e6]
        have := lv_le w c.2
        have := B.x3
        (first | lia | omega)
end
end Mine
end

section
set_option Elab.async false
set_option linter.unusedVariables false
namespace Mine
def Pcs (F : Int → List Int) : Int → List (Int × List Int) → Int → Prop
  | at', [], b => at' = b
  | at', (h, ms) :: r, b => at' < h ∧ (∀ p, at' < p → p ≤ h → F p = ms) ∧ Pcs F h r b
theorem Pcs.append {F : Int → List Int} {a b h : Int} {ms : List Int} {r : List (Int × List Int)} (P : Pcs F a r b) (q : b < h) (e : ∀ p, b < p → p ≤ h → F p = ms) : Pcs F a (r ++ [(h, ms)]) h := by
  induction r generalizing a with
  | nil => unfold Pcs at P; subst P; simp only [List.nil_append]; unfold Pcs; exact ⟨q, e, rfl⟩
  | cons c r ih => obtain ⟨h', ms'⟩ := c; unfold Pcs at P; simp only [List.cons_append]; unfold Pcs; exact ⟨P.1, P.2.1, ih P.2.2⟩
theorem Pcs.rise {F : Int → List Int} {a b : Int} {r : List (Int × List Int)} (P : Pcs F a r b) (g : List Int → Int) : Rise a (r.map fun c => (c.1, g c.2)) b := by
  induction r generalizing a with
  | nil => exact P
  | cons c r ih => obtain ⟨h', ms'⟩ := c; unfold Pcs at P; rw [List.map_cons]; unfold Rise; exact ⟨P.1, ih P.2.2⟩
theorem Pcs.pick {F : Int → List Int} {a b p : Int} {r : List (Int × List Int)} (P : Pcs F a r b) (g : List Int → Int) (h1 : a < p) (h2 : p ≤ b) : Mine.pick (r.map fun c => (c.1, g c.2)) p = some (g (F p)) := by
  induction r generalizing a with
  | nil => unfold Pcs at P; (first | lia | omega)
  | cons c r ih =>
    obtain ⟨h', ms'⟩ := c
    unfold Pcs at P
    rw [List.map_cons]
    unfold Mine.pick
    by_cases q : p ≤ h'
    · rw [if_pos q, P.2.1 p h1 q]
    · rw [if_neg q]; exact ih P.2.2 (by (first | lia | omega))
theorem Pcs.mem {F : Int → List Int} {a b : Int} {r : List (Int × List Int)} (P : Pcs F a r b) : ∀ c ∈ r, a < c.1 ∧ c.1 ≤ b ∧ F c.1 = c.2 := by
  induction r generalizing a with
  | nil => intro c hc; cases hc
  | cons c r ih =>
    obtain ⟨h', ms'⟩ := c
    unfold Pcs at P
    have t := rise_top (P.2.2.rise fun _ => 0)
    intro c hc
    rcases List.mem_cons.mp hc with rfl | hc
    · exact ⟨P.1, t, P.2.1 _ P.1 (Int.le_refl _)⟩
    · obtain ⟨x, y, z⟩ := ih P.2.2 c hc; exact ⟨by (first | lia | omega), y, z⟩
theorem Pcs.len {F : Int → List Int} {a b : Int} {r : List (Int × List Int)} (P : Pcs F a r b) : (r.length : Int) ≤ b - a := by
  induction r generalizing a with
  | nil => unfold Pcs at P; subst P; simp
  | cons c r ih =>
    obtain ⟨h', ms'⟩ := c
    unfold Pcs at P
    have := ih P.2.2
    simp only [List.length_cons]; (first | lia | omega)
theorem Pcs.ne {F : Int → List Int} {a b : Int} {r : List (Int × List Int)} (P : Pcs F a r b) (h : a < b) : r ≠ [] := by
  rintro rfl; unfold Pcs at P; (first | lia | omega)
def SidesOk : List (List (Int × Int)) → List Nat → Int → Int → Prop
  | [], [], _, _ => True
  | ps :: L, k :: pl, at', top => ((∀ p ∈ ps.take k, p.1 ≤ at') ∧ Rise at' (ps.drop k) top) ∧ SidesOk L pl at' top
  | _, _, _, _ => False
def headAt (ps : List (Int × Int)) (k : Nat) : Int × Int := ps.getD k (0, 0)
def heads (L : List (List (Int × Int))) (pl : List Nat) : List (Int × Int) := L.zipWith headAt pl
def bump (high : Int) (hs : List (Int × Int)) (pl : List Nat) : List Nat := hs.zipWith (fun p k => if p.1 = high then k + 1 else k) pl
theorem SidesOk.start {T : List Int} {x top : Int} : ∀ {L : List (List (Int × Int))}, (∀ ps ∈ L, Rise (-1) ps top) → SidesOk L (List.replicate L.length 0) (-1) top
  | [], _ => trivial
  | ps :: L, h => by
    rw [List.length_cons, List.replicate_succ]
    unfold SidesOk
    exact ⟨⟨fun p hp => by simp at hp, by rw [List.drop_zero]; exact h ps (.head _)⟩, SidesOk.start (T := T) (x := x) fun q hq => h q (.tail _ hq)⟩
theorem SidesOk.len : ∀ {L : List (List (Int × Int))} {pl : List Nat} {at' top : Int}, SidesOk L pl at' top → L.length = pl.length
  | [], [], _, _, _ => rfl
  | _ :: L, _ :: pl, _, _, h => by unfold SidesOk at h; simp [SidesOk.len h.2]
  | [], _ :: _, _, _, h => h.elim
  | _ :: _, [], _, _, h => h.elim
theorem side_head {ps : List (Int × Int)} {k : Nat} {at' top : Int} (h : Rise at' (ps.drop k) top) (q : at' < top) : ∃ r, ps.drop k = headAt ps k :: r ∧ ps[k]? = some (headAt ps k) ∧ at' < (headAt ps k).1 ∧ (headAt ps k).1 ≤ top ∧ r = ps.drop (k + 1) := by
  have hlt : k < ps.length := by
    by_cases z : k < ps.length
    · exact z
    · rw [List.drop_eq_nil_of_le (by (first | lia | omega))] at h; unfold Rise at h; (first | lia | omega)
  have e : ps.drop k = ps[k] :: ps.drop (k + 1) := List.drop_eq_getElem_cons hlt
  have e2 : headAt ps k = ps[k] := by unfold headAt; simp [hlt]
  rw [e] at h
  have h' := h
  unfold Rise at h'
  have := rise_top h'.2
  exact ⟨_, by rw [e2]; exact e, by rw [e2]; simp [hlt], by rw [e2]; exact h'.1, by rw [e2]; exact this, rfl⟩
/-- one turn -/
theorem SidesOk.turn {high top at' : Int} (q : at' < top) : ∀ {L : List (List (Int × Int))} {pl : List Nat}, SidesOk L pl at' top → at' < high → (∀ p ∈ heads L pl, high ≤ p.1) →
    SidesOk L (bump high (heads L pl) pl) high top ∧ (∀ p, at' < p → p ≤ high → L.map (fun ps => (pick ps p).getD 0) = (heads L pl).map (·.2))
  | [], [], _, _, _ => ⟨trivial, fun _ _ _ => rfl⟩
  | [], _ :: _, h, _, _ => h.elim
  | _ :: _, [], h, _, _ => h.elim
  | ps :: L, k :: pl, h, hh, hm => by
    unfold SidesOk at h
    obtain ⟨⟨h1, h2⟩, h3⟩ := h
    obtain ⟨i1, i2⟩ := SidesOk.turn q h3 hh fun p hp => hm p (.tail _ hp)
    have hle : high ≤ (headAt ps k).1 := hm _ (.head _)
    obtain ⟨r, e1, e2, e3, e4, e5⟩ := side_head h2 q
    refine ⟨?_, fun p p1 p2 => ?_⟩
    · show SidesOk (ps :: L) ((if (headAt ps k).1 = high then k + 1 else k) :: bump high (heads L pl) pl) high top
      unfold SidesOk
      refine ⟨?_, i1⟩
      rw [e1] at h2
      split
      · rename_i c
        refine ⟨fun p hp => ?_, ?_⟩
        · rw [List.take_add_one, e2] at hp
          rcases List.mem_append.mp hp with hp | hp
          · have := h1 p hp; (first | lia | omega)
          · simp at hp; subst hp; (first | lia | omega)
        · rw [← e5]
          have : headAt ps k = (high, (headAt ps k).2) := by rw [← c]
          rw [this] at h2
          unfold Rise at h2
          exact h2.2
      · rename_i c
        refine ⟨fun p hp => by have := h1 p hp; (first | lia | omega), ?_⟩
        rw [e1]
        have : headAt ps k = ((headAt ps k).1, (headAt ps k).2) := rfl
        rw [this] at h2 ⊢
        unfold Rise at h2 ⊢
        exact ⟨by (first | lia | omega), h2.2⟩
    · show (pick ps p).getD 0 :: _ = (headAt ps k).2 :: _
      rw [i2 p p1 p2]
      congr 1
      have this : pick ps p = pick (ps.take k ++ ps.drop k) p := by rw [List.take_append_drop]
      rw [this, pick_append, e1]
      have none1 : pick (ps.take k) p = none := by
        have : ∀ l : List (Int × Int), (∀ c ∈ l, c.1 ≤ at') → pick l p = none := by
          intro l hl
          induction l with
          | nil => rfl
          | cons c l ih =>
            obtain ⟨hc, mc⟩ := c
            unfold pick
            have := hl _ (.head _)
            rw [if_neg (by dsimp only at this; (first | lia | omega))]
            exact ih fun c hc => hl c (.tail _ hc)
        exact this _ h1
      rw [none1, Option.none_or]
      show (pick (((headAt ps k).1, (headAt ps k).2) :: r) p).getD 0 = _
      unfold pick
      rw [if_pos (by (first | lia | omega))]
      rfl
theorem SidesOk.heads {top at' : Int} (q : at' < top) : ∀ {L : List (List (Int × Int))} {pl : List Nat}, SidesOk L pl at' top → ∀ p ∈ heads L pl, at' < p.1 ∧ p.1 ≤ top
  | [], [], _, p, hp => by cases hp
  | [], _ :: _, h, _, _ => h.elim
  | _ :: _, [], h, _, _ => h.elim
  | ps :: L, k :: pl, h, p, hp => by
    unfold SidesOk at h
    rcases List.mem_cons.mp hp with rfl | hp
    · obtain ⟨r, e1, e2, e3, e4, e5⟩ := side_head h.1.2 q
      exact ⟨e3, e4⟩
    · exact SidesOk.heads q h.2 p hp
theorem SidesOk.get {top at' : Int} (q : at' < top) : ∀ {L : List (List (Int × Int))} {pl : List Nat}, SidesOk L pl at' top → ∀ {i : Nat} {ps : List (Int × Int)}, L[i]? = some ps → ∃ k, pl[i]? = some k ∧ (Mine.heads L pl)[i]? = some (headAt ps k) ∧ ps[k]? = some (headAt ps k)
  | [], [], _, i, ps, e => by simp at e
  | [], _ :: _, h, _, _, _ => h.elim
  | _ :: _, [], h, _, _, _ => h.elim
  | qs :: L, k :: pl, h, i, ps, e => by
    unfold SidesOk at h
    cases i with
    | zero =>
      simp only [List.getElem?_cons_zero, Option.some.injEq] at e
      subst e
      obtain ⟨r, e1, e2, e3, e4, e5⟩ := side_head h.1.2 q
      exact ⟨k, rfl, rfl, e2⟩
    | succ i =>
      simp only [List.getElem?_cons_succ] at e
      obtain ⟨k', a, b, c⟩ := SidesOk.get q h.2 e
      exact ⟨k', by simpa using a, by show (headAt qs k :: Mine.heads L pl)[i + 1]? = _; simpa using b, c⟩
theorem bump_len {high : Int} {hs : List (Int × Int)} {pl : List Nat} (h : hs.length = pl.length) : (bump high hs pl).length = pl.length := by simp [bump, h]
theorem mix_step {pl pn : List Nat} (h : pl.length = pn.length) {i k k' : Nat} (h1 : pl[i]? = some k) (h2 : pn[i]? = some k') : (pn.take i ++ pl.drop i).set i k' = pn.take (i + 1) ++ pl.drop (i + 1) ∧ (pn.take i ++ pl.drop i)[i]? = some k := by
  obtain ⟨a, e1⟩ := List.getElem?_eq_some_iff.mp h1
  obtain ⟨b, e2⟩ := List.getElem?_eq_some_iff.mp h2
  have hl : (pn.take i).length = i := by simp; (first | lia | omega)
  have hd : pl.drop i = k :: pl.drop (i + 1) := by rw [← e1]; exact List.drop_eq_getElem_cons a
  have ht : pn.take (i + 1) = pn.take i ++ [k'] := by rw [List.take_add_one, h2]; rfl
  refine ⟨?_, ?_⟩
  · rw [List.set_append_right _ _ (by (first | lia | omega)), hl, Nat.sub_self, hd, ht]; simp
  · rw [List.getElem?_append_right (by (first | lia | omega)), hl, Nat.sub_self, hd]; rfl
theorem bump_get {high : Int} {hs : List (Int × Int)} {pl : List Nat} {i k : Nat} {p : Int × Int} (h1 : hs[i]? = some p) (h2 : pl[i]? = some k) : (bump high hs pl)[i]? = some (if p.1 = high then k + 1 else k) := by
  unfold bump; rw [List.getElem?_zipWith, h1, h2]
theorem partsAt_rise {T : List Int} {ns : List Node} (w : WF T ns) {n x : Int} (h : (nd ns n).isSome = true) (ht : 0 ≤ topOf T x) : Rise (-1) (partsAt T ns n x) (topOf T x) := by
  unfold partsAt
  cases e : nd ns n with
  | none => exact ⟨by (first | lia | omega), rfl⟩
  | some k =>
    cases k with
    | leaf v => exact ⟨by (first | lia | omega), rfl⟩
    | br y ps =>
      dsimp only
      split
      · rename_i q; subst q; exact (w.ok _ _ _ e).rise
      · exact ⟨by (first | lia | omega), rfl⟩
/-- where a number leads at a value of x -/
def chn (T : List Int) (ns : List Node) (x p n : Int) : Int := (pick (partsAt T ns n x) p).getD 0
theorem chn_ok {T : List Int} {ns : List Node} (w : WF T ns) {n x p : Int} (h : (nd ns n).isSome = true) (hx : x ≤ lv ns n) (x3 : x < 3) (p0 : 0 ≤ p) (p1 : p ≤ topOf T x) :
    pick (partsAt T ns n x) p = some (chn T ns x p n) ∧ (nd ns (chn T ns x p n)).isSome = true ∧ x < lv ns (chn T ns x p n) ∧ lv ns n ≤ lv ns (chn T ns x p n) ∧ (∀ a v, Ev ns n (upd a x p) v → Ev ns (chn T ns x p n) a v) := by
  obtain ⟨m, hm⟩ := rise_pick (partsAt_rise w h (by (first | lia | omega))) (v := p) (by (first | lia | omega)) p1
  have ec : chn T ns x p n = m := by unfold chn; rw [hm]; rfl
  rw [ec]
  refine ⟨hm, ?_⟩
  unfold partsAt at hm
  obtain ⟨k, e⟩ := Option.isSome_iff_exists.mp h
  rw [e] at hm
  have stay : m = n → x ≠ lv ns n ∨ lv ns n = 3 → (nd ns m).isSome = true ∧ x < lv ns m ∧ lv ns n ≤ lv ns m ∧ (∀ a v, Ev ns n (upd a x p) v → Ev ns m a v) := by
    rintro rfl q
    have : x < lv ns m := by rcases q with q | q <;> (first | lia | omega)
    exact ⟨h, this, Int.le_refl _, fun a v hv => hv.indep w fun y y1 y2 => upd_ne (by (first | lia | omega))⟩
  cases k with
  | leaf v =>
    dsimp only at hm
    unfold pick at hm
    rw [if_pos p1] at hm
    cases hm
    exact stay rfl (.inr (by unfold lv; rw [e]))
  | br y ps =>
    have hl : lv ns n = y := by unfold lv; rw [e]
    dsimp only at hm
    by_cases q : y = x
    · rw [if_pos q] at hm
      subst q
      obtain ⟨c, hc, rfl⟩ := pick_mem hm
      obtain ⟨k1, k2⟩ := (w.ok _ _ _ e).kids c hc
      refine ⟨k1, k2, by (first | lia | omega), fun a v hv => ?_⟩
      cases hv with
      | leaf q => rw [e] at q; cases q
      | br q1 q2 q3 =>
        rw [e] at q1; cases q1
        rw [upd_self, hm] at q2; cases q2
        exact q3.indep w fun y' y1 y2 => upd_ne (by (first | lia | omega))
    · rw [if_neg q] at hm
      unfold pick at hm
      rw [if_pos p1] at hm
      cases hm
      exact stay rfl (.inl (by (first | lia | omega)))
end Mine
end

section
open PySem PySem.W PyProof.Rows PySem.Calls
set_option Elab.async false
set_option maxRecDepth 100000
set_option linter.unusedVariables false
namespace Mine
section
variable {C : Cx} {f : Fm} {st : St} {G : Gd} {D : Dg} {H : Addr → Option AO} {d : Nat} {Q : V → (Addr → Option AO) → Prop}
inductive SeqI (Q : List V → Bool → St → Prop) (u : V) (st : St) : Prop
  | mk (xs : List V) (e : u = .lst xs ∨ u = .tup xs) (q : Q xs true st)
theorem awI_seq {e : Expr} {Q : List V → Bool → St → Prop} (h : aw C f e (SeqI Q) st) : awI C f e Q st := by
  intro P K env A s Qc E hA hE hX R k
  refine h P K env A s _ E hA hE hX R ?_
  rintro u v st₁ K₁ h₁ tk₁ g₁ R₁ r ⟨xs, hu, q⟩
  have pass : ∀ {Q' : List V → Bool → St → Prop}, awI C f e Q' st → True := fun _ => trivial
  rcases hu with rfl | rfl
  · obtain ⟨a, o, ws, n, rfl, hk, hc, hd, rs⟩ := r.lst'
    have hl : h₁.IsList a ws.toArray := ⟨o, R₁.rh.froz _ _ hk, hc, n, hd⟩
    have ne : a ≠ h₁.objs.size := Nat.ne_of_lt (Heap.lt_size (R₁.rh.froz _ _ hk))
    refine wpAny_pyIter_list hl ?_
    have R₂ := R₁.push { cls := .type "list_iterator", data := .fields #[.ref a, .int 0 0] }
    exact k _ _ st₁ K₁ _ _ _ [h₁.objs.size] _ _ g₁ R₂ (wk_list hA.hh ne (by rw [hk]; simp) rs) ⟨⟨_, Heap.get?_push_size _ rfl, rfl, rfl⟩, _, Heap.get?_push_of_some _ (R₁.rh.froz _ _ hk), hc, n, hd⟩
      (fun b hb => by simp at hb; subst hb; exact R₁.idle (get_size h₁)) q
  · obtain ⟨a, o, ws, n, rfl, hk, hc, hd, rs⟩ := r.tup'
    have hl : h₁.IsTuple a ws.toArray := ⟨o, R₁.rh.froz _ _ hk, hc, n, hd⟩
    have ne : a ≠ h₁.objs.size := Nat.ne_of_lt (Heap.lt_size (R₁.rh.froz _ _ hk))
    refine wpAny_pyIter_tuple hl ?_
    have R₂ := R₁.push { cls := .type "tuple_iterator", data := .fields #[.ref a, .int 0 0] }
    exact k _ _ st₁ K₁ _ _ _ [h₁.objs.size] _ _ g₁ R₂ (wk_tuple hA.hh ne (by rw [hk]; simp) rs) ⟨⟨_, Heap.get?_push_size _ rfl, rfl, rfl⟩, _, Heap.get?_push_of_some _ (R₁.rh.froz _ _ hk), hc, n, hd⟩
      (fun b hb => by simp at hb; subst hb; exact R₁.idle (get_size h₁)) q
def pcV (c : Int × List Int) : V := .tup [.int c.1, .lst (c.2.map .int)]
theorem hput_sub {H : Addr → Option AO} {a : Addr} {x : AO} (h : H a = none) : ∀ b o, H b = some o → hput H a x b = some o := fun b o e => by
  rw [hput_ne (by rintro rfl; rw [h] at e; cases e)]; exact e
theorem get_map {α : Type} {g : α → V} {l : List α} {i : Nat} {u : V} (h : (l.map g)[i]? = some u) : ∃ x, l[i]? = some x ∧ u = g x := by
  rw [List.getElem?_map, Option.map_eq_some_iff] at h
  obtain ⟨x, hx, rfl⟩ := h; exact ⟨x, hx, rfl⟩
theorem take_snoc {α : Type} {l : List α} {i : Nat} {x : α} (h : l[i]? = some x) : l.take (i + 1) = l.take i ++ [x] := by rw [List.take_add_one, h]; rfl
theorem rise_len {a b : Int} {ps : List (Int × Int)} (h : Rise a ps b) : (ps.length : Int) ≤ b - a := by
  induction ps generalizing a with
  | nil => unfold Rise at h; subst h; simp
  | cons c r ih =>
    obtain ⟨h', ms'⟩ := c
    unfold Rise at h
    have := ih h.2
    simp only [List.length_cons]; (first | lia | omega)
theorem set_same_of {l : List Nat} {i k : Nat} (h : l[i]? = some k) : l.set i k = l := by
  obtain ⟨a, e⟩ := List.getElem?_eq_some_iff.mp h
  rw [← e]; exact List.set_getElem_self a
def plV (pl : List Nat) : AO := .list (pl.map fun k : Nat => V.int k)
structure SpI (G : Gd) (D : Dg) (H : Addr → Option AO) (x : Int) (L : List (List (Int × Int))) (F : Int → List Int) (pa qa : Addr) (k : Nat) (st : St) : Prop where
  d : st.m "diagrams" = some G.val
  v : st.m "variable" = some (.int x)
  s : st.m "sides" = some (.lst (L.map fun ps => V.tup (ps.map V.pair)))
  p : st.m "places" = some (.raw (.ref pa))
  q : st.m "pieces" = some (.raw (.ref qa))
  e : ∃ at' pl pcs, A7 (st.m "high" = some (.int at')) (st.H = hput (hput (DH G D H) pa (plV pl)) qa (.list (pcs.map pcV))) (SidesOk L pl at' (topOf G.tops x)) (Pcs F (-1) pcs at') (at' ≤ topOf G.tops x) (-1 ≤ at') (k = (topOf G.tops x - at').toNat)
theorem c_split (o : G.Ok) (hn : D.nodes.length ≤ 2 ^ 20) (ht : G.tops.length = 3) (w : WF G.tops D.nodes) (hT : ∀ x, 0 ≤ x → x < 3 → 0 ≤ topOf G.tops x ∧ topOf G.tops x ≤ 2) {ns : List Int} {un : V} (hu : un = .lst (ns.map .int) ∨ un = .tup (ns.map .int)) (hv : ∀ n ∈ ns, (nd D.nodes n).isSome = true) (hl : ns.length ≤ 3) {n0 : Int} (h0 : n0 ∈ ns) (h3 : lv D.nodes n0 < 3)
    (q : ∀ x pcs, 0 ≤ x → x < 3 → (∀ n ∈ ns, x ≤ lv D.nodes n) → (∃ n ∈ ns, lv D.nodes n = x) → Pcs (fun p => ns.map (chn G.tops D.nodes x p)) (-1) pcs (topOf G.tops x) → Q (.tup [.int x, .lst (pcs.map pcV)]) (DH G D H)) : Fn C 4 (.ref 121) [G.val, un] (DH G D H) Q := by
  refine fn_cell def_split rfl (by kernel_rfl) (fun n => by kernel_rfl) ?_
  conv => arg 3; whnf
  conv => arg 2; arg 1; whnf
  refine ax_cons (ax1_assign (aw_call keeps1_builtin (aw_builtin n_min rfl ⟨rfl, aws_cons (aw_comp false (awI_seq (aw_local (u := un) rfl ⟨ns.map .int, hu, .inr ⟨⟨_, _, rfl⟩, rfl⟩, fun i ys st => A3 (st.m "diagrams" = some G.val) (st.H = DH G D H) (ys = (ns.take i).map fun n => V.int (lv D.nodes n)), ⟨rfl, rfl, rfl⟩, ?_, ?_⟩)) (by rfl) (by simp))⟩)))
  · rintro i u ys st₂ hi ⟨e1, e2, e3⟩
    obtain ⟨n, hn', rfl⟩ := get_map hi
    refine aas_local ⟨by rw [e3]; simp; (first | lia | omega), ?_⟩
    refine aw_meth (aw_cell e1 ⟨.ref 102, _, keep_level, meth_inst pg_level find_level ty_level rfl, aws_cons (aw_local rfl (aws_nil ?_))⟩)
    try dsimp only [conU, fnQ, fnM, outQ, nx, asQ, retQ, nexQ, endQ, flV]
    rw [e2]
    refine m_level o hn ht (by decide) (hv n (List.mem_of_getElem? hn')) ⟨e1, rfl, ?_⟩
    rw [e3, take_snoc hn', List.map_append]; rfl
  · rintro ys st₂ ⟨e1, e2, e3⟩
    have elen : (ns.map V.int).length = ns.length := by simp
    rw [elen, List.take_length] at e3
    subst e3
    have em : (ns.map fun n => V.int (lv D.nodes n)) = (ns.map (lv D.nodes)).map .int := by rw [List.map_map]; rfl
    rw [em]
    refine aws_nil ?_
    try dsimp only [conU, fnQ, fnM, outQ, nx, asQ, retQ, nexQ, endQ, flV]
    rw [e2]
    refine fn_min_lst (by intro e; rw [List.map_eq_nil_iff] at e; subst e; cases h0) fun x hx hmin => ?_
    obtain ⟨nx, hnx, rfl⟩ := List.mem_map.mp hx
    have hx3 : lv D.nodes nx < 3 := by have := hmin _ (List.mem_map.mpr ⟨n0, h0, rfl⟩); (first | lia | omega)
    have hx0 : 0 ≤ lv D.nodes nx := (lv_le w nx).1
    generalize hX : lv D.nodes nx = x at *
    have hle : ∀ n ∈ ns, x ≤ lv D.nodes n := fun n hn => hmin _ (List.mem_map.mpr ⟨n, hn, rfl⟩)
    obtain ⟨hTx, hTx2⟩ := hT x hx0 hx3
    refine aas_cell ?_
    let L := ns.map fun n => partsAt G.tops D.nodes n x
    have hLl : L.length = ns.length := by simp [L]
    -- sides
    refine ax_cons (ax1_comp false (awI_seq (aw_local (u := un) rfl ⟨ns.map .int, hu, .inr ⟨⟨_, _, rfl⟩, rfl⟩, fun i ys st => A4 (st.m "diagrams" = some G.val) (st.m "variable" = some (.int x)) (st.H = DH G D H) (ys = (ns.take i).map fun n => V.tup ((partsAt G.tops D.nodes n x).map V.pair)), ⟨rfl, rfl, rfl, rfl⟩, ?_, ?_⟩)) (by rfl) (by simp) ?_)
    · rintro i u ys st₂ hi ⟨e1, e2, e3, e4⟩
      obtain ⟨n, hn', rfl⟩ := get_map hi
      refine aas_local ⟨by rw [e4]; simp; (first | lia | omega), ?_⟩
      refine aw_call keep_parts_at (aw_global g_parts_at ⟨rfl, aws_cons (aw_cell e1 (aws_cons (aw_local rfl (aws_cons (aw_cell e2 (aws_nil ?_))))))⟩)
      try dsimp only [conU, fnQ, fnM, outQ, nx, asQ, retQ, nexQ, endQ, flV]
      rw [e3]
      refine (c_parts_at o hn ht hx0 hx3 (hv n (List.mem_of_getElem? hn')) ⟨e1, e2, rfl, ?_⟩)
      rw [e4, take_snoc hn', List.map_append]; rfl
    · rintro ys st₂ ⟨e1, e2', e3, e4⟩
      rw [elen, List.take_length] at e4
      have eL : ys = L.map fun ps => V.tup (ps.map V.pair) := by rw [e4]; simp [L]
      subst eL
      refine aas_local ?_
      try dsimp only [conU, fnQ, fnM, outQ, nx, asQ, retQ, nexQ, endQ, flV]
      rw [e3]
      -- places
      refine ax_cons (ax1_assign (aw_mulH (aw_listH (aws_cons (aw_int (aws_nil ⟨by simp, fun d0 hd0 => ⟨.int 0, d0, rfl, ?_⟩⟩))))))
      refine aw_call keeps1_builtin (aw_builtin n_len rfl ⟨rfl, aws_cons (aw_local rfl (aws_nil (fn_len_lst (by simp [L]; (first | lia | omega)) ⟨ns.length, by simp [L], by (first | lia | omega), hput_self, fun pa hpa => ?_⟩)))⟩)
      dsimp only at hd0 hpa
      have pd : pa ≠ d0 := by rintro rfl; rw [hput_self] at hpa; cases hpa
      rw [hput_ne pd] at hpa
      have eh : hput (hdel (hput (DH G D H) d0 (.list [.int 0])) d0) pa (.list (List.replicate ns.length (.int 0))) = hput (DH G D H) pa (.list (List.replicate ns.length (.int 0))) := by rw [hdel_put hd0]
      try dsimp only [conU, fnQ, fnM, outQ, nx, asQ, retQ, nexQ, endQ, flV]
      rw [eh]
      refine aas_cell ?_
      -- pieces
      refine ax_cons (ax1_assign (aw_listH (aws_nil ⟨by simp, fun qa hqa => aas_local ?_⟩)))
      dsimp only at hqa
      have qp : qa ≠ pa := by rintro rfl; rw [hput_self] at hqa; cases hqa
      rw [hput_ne qp] at hqa
      refine ax_cons (ax1_assign (aw_neg (aw_int ⟨_, rfl, aas_local ?_⟩)))
      have hSt : SidesOk L (List.replicate L.length 0) (-1) (topOf G.tops x) := SidesOk.start (T := G.tops) (x := x) fun ps hps => by
        obtain ⟨n, hn', rfl⟩ := List.mem_map.mp hps
        exact partsAt_rise w (hv n hn') hTx
      have eF : (fun p => ns.map (chn G.tops D.nodes x p)) = fun p => L.map fun ps => (pick ps p).getD 0 := by funext p; simp only [L, List.map_map]; rfl
      refine ax_cons (ax1_while (SpI G D H x L (fun p => ns.map (chn G.tops D.nodes x p)) pa qa) _ ⟨rfl, rfl, rfl, rfl, rfl, -1, List.replicate L.length 0, [], rfl, by dsimp only; rw [hLl]; unfold plV; rw [List.map_replicate]; rfl, hSt, rfl, by (first | lia | omega), by (first | lia | omega), rfl⟩ ?_)
      rintro k st₃ ⟨i1, i2, i3, i4, i5, at', pl, pcs, i6, i7, i8, i9, i10, i11, i12⟩
      have hP : st₃.H pa = some (plV pl) := by rw [i7, hput_ne qp.symm, hput_self]
      have hQ : st₃.H qa = some (.list (pcs.map pcV)) := by rw [i7, hput_self]
      refine at_cmp (aw_local i6 (aw_sub (aw_tops (aw_cell i1 ⟨rfl, aw_cell i2 ⟨_, sub_tops ht hx0 hx3, _, cmp_lt, fun e => ?_, fun e => ?_⟩⟩)) (by decide)))
      · have hlt : at' < topOf G.tops x := of_decide_eq_true e
        have hLp := i8.len
        let hs := heads L pl
        have hhs : ∀ p ∈ hs, at' < p.1 ∧ p.1 ≤ topOf G.tops x := i8.heads hlt
        have hsl : hs.length = L.length := by simp only [hs, heads, List.length_zipWith]; (first | lia | omega)
        -- parts
        refine ax_cons (ax1_comp false (awI_enum n_enumerate (aw_local i3 ⟨_, rfl, .inl ⟨_, _, _, rfl⟩, fun i ys st => A3 (st.m "places" = some (.raw (.ref pa))) (st.H = st₃.H) (ys = (hs.take i).map V.pair), ⟨i4, rfl, rfl⟩, ?_, ?_⟩)) (by rfl) (by simp) ?_)
        · rintro i u ys st₄ hi ⟨j1, j2, j3⟩
          obtain ⟨u', hi', rfl⟩ := enumV_get hi
          obtain ⟨ps, hps, rfl⟩ := get_map hi'
          obtain ⟨k', g1, g2, g3⟩ := i8.get hlt hps
          have hil : i < L.length := (List.getElem?_eq_some_iff.mp hps).1
          refine aas_tup (us := [.int (i : Nat), .tup (ps.map V.pair)]) (aas_local (aas_local ⟨by rw [j3]; simp; (first | lia | omega), ?_⟩)) rfl
          have hP4 : st₄.H pa = some (.list (pl.map fun k : Nat => V.int k)) := by rw [j2]; exact hP
          refine aw_sub (aw_local rfl (aw_sub (aw_cell j1 (aw_local rfl ⟨.int (k' : Nat), sub_H hP4 (by (first | lia | omega)) (by (first | lia | omega)) (by simp [g1]), .pair (headAt ps k'), sub_tup0 (by (first | lia | omega)) ?_ (by simp [g3]), j1, j2, ?_⟩)) (by decide))) (by decide)
          · have hpsl : (ps.length : Int) ≤ topOf G.tops x + 1 := by
              obtain ⟨n, hn', rfl⟩ := List.mem_map.mp (List.mem_of_getElem? hps)
              have := rise_len (partsAt_rise w (hv n hn') hTx)
              (first | lia | omega)
            have := (List.getElem?_eq_some_iff.mp g3).1
            (first | lia | omega)
          · rw [j3, take_snoc g2, List.map_append]; rfl
        · rintro ys st₄ ⟨j1, j2, j3⟩
          rw [enumV_length, List.length_map, ← hsl, List.take_length] at j3
          subst j3
          refine aas_local ?_
          try dsimp only [conU, fnQ, fnM, outQ, nx, asQ, retQ, nexQ, endQ, flV]
          rw [j2]
          -- high
          refine ax_cons (ax1_assign (aw_call keeps1_builtin (aw_builtin n_min rfl ⟨rfl, aws_cons (aw_comp false (awI_lst (aw_local rfl ⟨_, rfl, .inr ⟨⟨_, _, rfl⟩, rfl⟩, fun i ys st => st.H = st₃.H ∧ ys = (hs.take i).map fun p => V.int p.1, ⟨rfl, rfl⟩, ?_, ?_⟩)) (by rfl) (by simp))⟩)))
          · rintro i u ys st₅ hi ⟨l1, l2⟩
            obtain ⟨p, hp, rfl⟩ := get_map hi
            have hil : i < hs.length := (List.getElem?_eq_some_iff.mp hp).1
            refine aas_local ⟨by rw [l2]; simp; (first | lia | omega), ?_⟩
            refine aw_sub (aw_local rfl (aw_int ⟨.int p.1, sub_tup0 (by decide) (by decide) rfl, l1, ?_⟩)) (by decide)
            rw [l2, take_snoc hp, List.map_append]; rfl
          · rintro ys st₅ ⟨l1, l2⟩
            rw [List.length_map, List.take_length] at l2
            subst l2
            refine aws_nil ?_
            try dsimp only [conU, fnQ, fnM, outQ, nx, asQ, retQ, nexQ, endQ, flV]
            rw [l1]
            have em2 : (hs.map fun p => V.int p.1) = (hs.map (·.1)).map .int := by rw [List.map_map]; rfl
            rw [em2]
            have hLne : L ≠ [] := by rintro e; have := hLl; rw [e] at this; simp at this; have := List.length_pos_of_mem h0; (first | lia | omega)
            refine fn_min_lst (by intro e; rw [List.map_eq_nil_iff] at e; rw [e] at hsl; exact hLne (List.length_eq_zero_iff.mp hsl.symm)) fun high hh hmin' => aas_local ?_
            obtain ⟨p0, hp0, rfl⟩ := List.mem_map.mp hh
            have hh1 := hhs p0 hp0
            generalize hHi : p0.1 = high at *
            obtain ⟨t1, t2⟩ := i8.turn hlt hh1.1 (fun p hp => hmin' _ (List.mem_map.mpr ⟨p, hp, rfl⟩))
            -- pieces
            refine ax_cons (ax1_expr ?_ (by intro _ e; unfold interactive; rw [e]; rfl))
            refine aw_meth (aw_local i5 ⟨.builtin "list.append", _, keeps1_builtin, meth_list hQ F.slot_list_append rfl, aws_cons (aw_tup (aws_cons (aw_local rfl (aws_cons ?_))))⟩)
            refine aw_comp false (awI_lst (aw_local rfl ⟨_, rfl, .inr ⟨⟨_, _, rfl⟩, rfl⟩, fun i ys st => st.H = st₃.H ∧ ys = (hs.take i).map fun p => V.int p.2, ⟨rfl, rfl⟩, ?_, ?_⟩)) (by rfl) (by simp)
            · rintro i u ys st₅ hi ⟨l1, l2⟩
              obtain ⟨p, hp, rfl⟩ := get_map hi
              have hil : i < hs.length := (List.getElem?_eq_some_iff.mp hp).1
              refine aas_local ⟨by rw [l2]; simp; (first | lia | omega), ?_⟩
              refine aw_sub (aw_local rfl (aw_int ⟨.int p.2, sub_tup0 (by decide) (by decide) rfl, l1, ?_⟩)) (by decide)
              rw [l2, take_snoc hp, List.map_append]; rfl
            · rintro ys st₅ ⟨l1, l2⟩
              rw [List.length_map, List.take_length] at l2
              subst l2
              refine aws_nil ⟨by simp, aws_nil ?_⟩
              try dsimp only [conU, fnQ, fnM, outQ, nx, asQ, retQ, nexQ, endQ, flV]
              rw [l1]
              have hpl := i9.len
              refine fn_append hQ (by simp; (first | lia | omega)) ?_
              -- places move on
              have i9' := i9.append (ms := hs.map (·.2)) hh1.1 (fun p p1 p2 => by rw [← t2 p p1 p2]; exact congrFun eF p)
              let pn := bump high hs pl
              have hpn : pn.length = pl.length := bump_len (by (first | lia | omega))
              have eQ : hput st₃.H qa (.list ((pcs.map pcV) ++ [V.tup [.int high, .lst (hs.map fun p => V.int p.2)]])) = hput (hput (DH G D H) pa (plV pl)) qa (.list ((pcs ++ [(high, hs.map (·.2))]).map pcV)) := by
                rw [i7, hput_put]; simp [pcV]; rfl
              rw [eQ]
              refine ax_cons (ax1_for (awI_enum n_enumerate (aw_local rfl ⟨_, rfl, .inl ⟨_, _, _, rfl⟩, fun i st => A7 (st.m "diagrams" = some G.val) (st.m "variable" = some (.int x)) (st.m "sides" = some (.lst (L.map fun ps => V.tup (ps.map V.pair)))) (st.m "places" = some (.raw (.ref pa))) (st.m "pieces" = some (.raw (.ref qa))) (st.m "high" = some (.int high)) (st.H = hput (hput (DH G D H) pa (plV (pn.take i ++ pl.drop i))) qa (.list ((pcs ++ [(high, hs.map (·.2))]).map pcV))), ⟨i1, i2, i3, i4, i5, rfl, by simp⟩, ?_, ?_⟩)))
              · rintro i u st₆ hi ⟨m1, m2, m3, m4, m5, m6, m7⟩
                obtain ⟨u', hi', rfl⟩ := enumV_get hi
                obtain ⟨p, hp, rfl⟩ := get_map hi'
                have hil : i < hs.length := (List.getElem?_eq_some_iff.mp hp).1
                obtain ⟨k', hk'⟩ : ∃ k', pl[i]? = some k' := ⟨_, List.getElem?_eq_getElem (by (first | lia | omega))⟩
                have hbg := bump_get (high := high) hp hk'
                obtain ⟨x1, x2⟩ := mix_step hpn.symm hk' hbg
                have hP6 : st₆.H pa = some (.list ((pn.take i ++ pl.drop i).map fun k : Nat => V.int k)) := by rw [m7, hput_ne qp.symm, hput_self]; rfl
                refine aas_tup (us := [.int (i : Nat), .tup [.int p.1, .int p.2]]) (aas_local (aas_local ?_)) rfl
                refine ax_cons (ax1_if (at_cmp (aw_sub (aw_local rfl (aw_int ⟨.int p.1, sub_tup0 (by decide) (by decide) rfl, aw_local m6 ⟨_, cmp_eq, fun e => ?_, fun e => ax_nil ?_⟩⟩)) (by decide))))
                · have e : p.1 = high := by simpa using e
                  rw [if_pos e] at x1
                  refine ax_cons (ax1_augsub (aw_cell m4 (aw_local rfl ⟨pa, _, (i : Nat), (k' : Nat), rfl, rfl, hP6, by (first | lia | omega), by (first | lia | omega), by rw [Int.toNat_natCast, List.getElem?_map, x2]; rfl, aw_int ⟨1, rfl, hP6, ax_nil (ax_nil ⟨m1, m2, m3, m4, m5, m6, ?_⟩)⟩⟩)) (by decide))
                  try dsimp only [conU, fnQ, fnM, outQ, nx, asQ, retQ, nexQ, endQ, flV]
                  rw [m7]
                  have e2 : (((pn.take i ++ pl.drop i).map fun k : Nat => V.int k).set ((i : Nat) : Int).toNat (.int ((k' : Nat) + 1))) = (pn.take (i + 1) ++ pl.drop (i + 1)).map fun k : Nat => V.int k := by
                    rw [← x1, List.map_set]; simp
                  rw [e2]
                  funext b
                  unfold hput
                  by_cases z : b = pa
                  · subst z; simp [qp.symm, plV]
                  · simp [z]
                · have e : p.1 ≠ high := by simpa using e
                  rw [if_neg e] at x1
                  refine ax_nil ⟨m1, m2, m3, m4, m5, m6, ?_⟩
                  try dsimp only [conU, fnQ, fnM, outQ, nx, asQ, retQ, nexQ, endQ, flV]
                  rw [m7, ← x1]
                  rw [set_same_of x2]
              · rintro st₆ ⟨m1, m2, m3, m4, m5, m6, m7⟩
                have el : (enumV (hs.map V.pair)).length = pn.length := by rw [enumV_length, List.length_map]; (first | lia | omega)
                rw [el, List.take_length, List.drop_eq_nil_of_le (by (first | lia | omega)), List.append_nil] at m7
                exact ax_nil ⟨_, by (first | lia | omega), m1, m2, m3, m4, m5, high, pn, _, m6, m7, t1, i9', hh1.2, by (first | lia | omega), rfl⟩
        · intro env e; obtain ⟨s1, s2, s3, s4, s5, s6, s7, s8, s9⟩ := env; dsimp only at e; subst e; rfl
      · have hge : at' = topOf G.tops x := by have := of_decide_eq_false e; (first | lia | omega)
        subst hge
        refine aT.forget (st := ⟨st₃.m, hput (DH G D H) qa (.list (pcs.map pcV))⟩) ?_ (fun _ _ e => e) (fun b ob eb => ?_)
        · refine ax_cons (ax1_ret (aw_tup (aws_cons (aw_cell i2 (aws_cons (aw_freeze (aw_local i5 ⟨qa, _, rfl, hput_self, aws_nil ⟨by simp, ?_⟩⟩)))))))
          try dsimp only [conU, fnQ, fnM, outQ, nx, asQ, retQ, nexQ, endQ, flV]
          rw [hdel_put hqa]
          exact q x pcs hx0 hx3 hle ⟨nx, hnx, hX⟩ i9
        · rw [i7]
          by_cases z : b = qa
          · subst z; simp only [hput_self] at eb ⊢; exact eb
          · simp only [hput_ne z] at eb ⊢
            exact hput_sub hpa b ob eb
    · intro env e; obtain ⟨s1, s2, s3, s4, s5, s6, s7, s8, s9⟩ := env; dsimp only at e; subst e; rfl
end
end Mine
end

section
set_option Elab.async false
set_option linter.unusedVariables false
namespace Mine
def sizeD (D : Dg) : Nat := D.nodes.length + D.memo.length
theorem Grow.size {T : List Int} {D D' : Dg} {g : Nat} (x : Grow T D D' g) : sizeD D' ≤ sizeD D + g := x.sz
def mlook (ms : List (List Int × Int)) (k : List Int) : Option Int := (ms.find? fun e => decide (e.1 = k)).map (·.2)
def mputL (ms : List (List Int × Int)) (k : List Int) (r : Int) : List (List Int × Int) := if (mlook ms k).isSome then ms.map (fun e => if e.1 = k then (e.1, r) else e) else ms ++ [(k, r)]
theorem alook_memo {k : List Int} : ∀ {ms : List (List Int × Int)}, alook (memoOf ms) k = (mlook ms k).map .int
  | [] => rfl
  | e :: ms => by
    have ih := alook_memo (k := k) (ms := ms)
    unfold alook memoOf mlook at *
    rw [List.map_cons, List.find?_cons, List.find?_cons]
    by_cases q : e.1 = k
    · simp [q]
    · simp only [q, decide_false]; exact ih
theorem aput_memo {ms : List (List Int × Int)} {k : List Int} {r : Int} : aput (memoOf ms) k (.int r) = memoOf (mputL ms k r) := by
  unfold aput mputL
  rw [alook_memo]
  cases q : mlook ms k with
  | none => simp [memoOf]
  | some v =>
    simp only [Option.map_some, Option.isSome_some, if_true, memoOf, List.map_map]
    refine List.map_congr_left fun e _ => ?_
    simp only [Function.comp]
    split <;> rfl
theorem mlook_mem {ms : List (List Int × Int)} {k : List Int} {r : Int} (h : mlook ms k = some r) : (k, r) ∈ ms := by
  unfold mlook at h
  rw [Option.map_eq_some_iff] at h
  obtain ⟨e, he, rfl⟩ := h
  have h1 := List.mem_of_find?_eq_some he
  have h2 := List.find?_some he
  have : e.1 = k := of_decide_eq_true h2
  rw [← this]; exact h1
theorem mputL_mem {ms : List (List Int × Int)} {k : List Int} {r : Int} {e : List Int × Int} (h : e ∈ mputL ms k r) : e ∈ ms ∨ e = (k, r) := by
  unfold mputL at h
  split at h
  · obtain ⟨e', he, rfl⟩ := List.mem_map.mp h
    split
    · rename_i q; rw [q]; exact .inr rfl
    · exact .inl he
  · rcases List.mem_append.mp h with h | h
    · exact .inl h
    · simp at h; exact .inr h
theorem mputL_len {ms : List (List Int × Int)} {k : List Int} {r : Int} : (mputL ms k r).length ≤ ms.length + 1 := by
  unfold mputL; split <;> simp
theorem mlook_put {ms : List (List Int × Int)} {k : List Int} {r : Int} : mlook (mputL ms k r) k = some r := by
  unfold mputL
  cases q : mlook ms k with
  | none =>
    simp only [Option.isSome_none, Bool.false_eq_true, if_false]
    unfold mlook at q ⊢
    rw [Option.map_eq_none_iff] at q
    rw [List.find?_append, q]; simp
  | some v =>
    simp only [Option.isSome_some, if_true]
    induction ms with
    | nil => cases q
    | cons e ms ih =>
      unfold mlook at q ih ⊢
      rw [List.map_cons, List.find?_cons]
      by_cases z : e.1 = k
      · simp [z]
      · rw [List.find?_cons] at q
        simp only [z, decide_false] at q ⊢
        simp only [if_false, z, decide_false]
        exact ih q
theorem memoOf_len {ms : List (List Int × Int)} : (memoOf ms).length = ms.length := by simp [memoOf]
theorem Grow.put {T : List Int} {D : Dg} {c y n r : Int} (I : Inv T D) (x : ChOk T D.nodes c y n r) : Grow T D { D with memo := mputL D.memo [c, y, n] r } 1 where
  inv := ⟨I.wf, fun e he => by
    rcases mputL_mem he with he | rfl
    · exact I.memo e he
    · exact ⟨c, y, n, rfl, x⟩⟩
  pre := Pre.refl _
  sz := by have := mputL_len (ms := D.memo) (k := [c, y, n]) (r := r); dsimp only; (first | lia | omega)
def gch : Nat → Nat
  | 0 => 0
  | k + 1 => 3 * gch k + 2
/-- the parts behind the pieces -/
inductive PcOk (T : List Int) (ns : List Node) : List (Int × List Int) → List (Int × Int) → Prop
  | nil : PcOk T ns [] []
  | snoc {pcs ps h a b c r} : PcOk T ns pcs ps → ChOk T ns a b c r → PcOk T ns (pcs ++ [(h, [a, b, c])]) (ps ++ [(h, r)])
theorem PcOk.mono {T : List Int} {ns ns' : List Node} (w : WF T ns) (h : Pre ns ns') {pcs : List (Int × List Int)} {ps : List (Int × Int)} (x : PcOk T ns pcs ps) : PcOk T ns' pcs ps := by
  induction x with
  | nil => exact .nil
  | snoc _ c ih => exact .snoc ih (c.mono w h)
theorem PcOk.get {T : List Int} {ns : List Node} {pcs : List (Int × List Int)} {ps : List (Int × Int)} (x : PcOk T ns pcs ps) : ps.map (·.1) = pcs.map (·.1) ∧ ∀ (i : Nat) (p : Int × Int), ps[i]? = some p → ∃ a b c, pcs[i]? = some (p.1, [a, b, c]) ∧ ChOk T ns a b c p.2 := by
  induction x with
  | nil => exact ⟨rfl, fun i p h => by simp at h⟩
  | @snoc pcs ps h a b c r y z ih =>
    obtain ⟨e, g⟩ := ih
    have hl : ps.length = pcs.length := by have := congrArg List.length e; simpa using this
    refine ⟨by simp [e], fun i p hp => ?_⟩
    by_cases q : i < ps.length
    · rw [List.getElem?_append_left q] at hp
      obtain ⟨a', b', c', e1, e2⟩ := g i p hp
      exact ⟨a', b', c', by rw [List.getElem?_append_left (by (first | lia | omega))]; exact e1, e2⟩
    · rw [List.getElem?_append_right (by (first | lia | omega))] at hp
      have hi : i - ps.length = 0 := by have := (List.getElem?_eq_some_iff.mp hp).1; simp at this; (first | lia | omega)
      rw [hi] at hp
      simp only [List.getElem?_cons_zero, Option.some.injEq] at hp
      subst hp
      exact ⟨a, b, c, by rw [List.getElem?_append_right (by (first | lia | omega))]; rw [show i - pcs.length = 0 by (first | lia | omega)]; rfl, z⟩
theorem rise_map {α : Type} {g : α → Int} : ∀ {ps : List (Int × Int)} {pcs : List (Int × α)} {a b : Int}, ps.map (·.1) = pcs.map (·.1) → Rise a (pcs.map fun c => (c.1, g c.2)) b → Rise a ps b
  | [], [], _, _, _, h => h
  | [], _ :: _, _, _, e, _ => by cases e
  | _ :: _, [], _, _, e, _ => by cases e
  | (h, m) :: ps, (h', m') :: pcs, a, b, e, H => by
    simp only [List.map_cons, List.cons.injEq] at e
    obtain ⟨rfl, e⟩ := e
    rw [List.map_cons] at H
    unfold Rise at H ⊢
    exact ⟨H.1, rise_map e H.2⟩
/-- what the piece at a value holds -/
theorem Pcs.at {F : Int → List Int} : ∀ {pcs : List (Int × List Int)} {a b p : Int}, Pcs F a pcs b → ∀ {ps : List (Int × Int)}, ps.map (·.1) = pcs.map (·.1) → ∀ {m : Int}, Mine.pick ps p = some m → a < p → ∃ (i : Nat) (h : Int), ps[i]? = some (h, m) ∧ pcs[i]? = some (h, F p)
  | [], _, _, _, _, [], _, _, h, _ => by cases h
  | [], _, _, _, _, _ :: _, e, _, _, _ => by cases e
  | _ :: _, _, _, _, _, [], e, _, _, _ => by cases e
  | (h, ms) :: pcs, a, b, p, P, (h', m') :: ps, e, m, hp, ha => by
    simp only [List.map_cons, List.cons.injEq] at e
    obtain ⟨rfl, e⟩ := e
    unfold Pcs at P
    unfold Mine.pick at hp
    by_cases q : p ≤ h'
    · rw [if_pos q] at hp
      cases hp
      exact ⟨0, h', rfl, by rw [P.2.1 p ha q]; rfl⟩
    · rw [if_neg q] at hp
      obtain ⟨i, h, e1, e2⟩ := Pcs.at P.2.2 e hp (by (first | lia | omega))
      exact ⟨i + 1, h, by simpa using e1, by simpa using e2⟩
theorem choose_made {T : List Int} {D₀ D D' : Dg} {c y n x r : Int} {pcs : List (Int × List Int)} {ps : List (Int × Int)} (w₀ : WF T D₀.nodes) (pre : Pre D₀.nodes D.nodes) (w : WF T D.nodes) (x0 : 0 ≤ x) (x3 : x < 3) (hT : 0 ≤ topOf T x)
    (vc : (nd D₀.nodes c).isSome = true) (vy : (nd D₀.nodes y).isSome = true) (vn : (nd D₀.nodes n).isSome = true) (hx : x ≤ lv D₀.nodes c ∧ x ≤ lv D₀.nodes y ∧ x ≤ lv D₀.nodes n) (hx' : lv D₀.nodes c = x ∨ lv D₀.nodes y = x ∨ lv D₀.nodes n = x)
    (P : Pcs (fun p => [c, y, n].map (chn T D₀.nodes x p)) (-1) pcs (topOf T x)) (ok : PcOk T D.nodes pcs ps) (M : Made T D D' x ps r) : ChOk T D'.nodes c y n r := by
  have pre' := pre.trans M.grow.pre
  refine ⟨pre'.some vc, pre'.some vy, pre'.some vn, M.v, ?_, fun a t v ha e1 e2 => ?_⟩
  · rw [pre'.lv vc, pre'.lv vy, pre'.lv vn]
    have := M.l
    rcases hx' with h | h | h
    · exact .inl (by (first | lia | omega))
    · exact .inr (.inl (by (first | lia | omega)))
    · exact .inr (.inr (by (first | lia | omega)))
  · obtain ⟨h1, h2⟩ := ha x x0 x3
    obtain ⟨g1, g2⟩ := ok.get
    have hr : Rise (-1) ps (topOf T x) := rise_map (g := fun _ => 0) g1 (P.rise fun _ => 0)
    obtain ⟨m, hm⟩ := rise_pick hr (v := a x) (by (first | lia | omega)) h2
    obtain ⟨i, h, e3, e4⟩ := P.at g1 hm (by (first | lia | omega))
    obtain ⟨a', b', c', e5, ch⟩ := g2 i _ e3
    rw [e4] at e5
    simp only [List.map_cons, List.map_nil, Option.some.injEq, Prod.mk.injEq, List.cons.injEq] at e5
    obtain ⟨-, rfl, rfl, rfl, -⟩ := e5
    refine M.ev a m v hm (Ev.mono M.grow.pre ?_)
    have ea : a = upd a x (a x) := by funext z; unfold upd; split <;> simp [*]
    have f1 := (chn_ok w₀ vc hx.1 x3 h1 h2).2.2.2.2 a t (by rw [← ea]; exact e1.back pre' w₀ vc)
    refine ch.ev a t v ha (f1.mono pre) ?_
    by_cases q : t = 1
    · rw [if_pos q] at e2 ⊢
      exact ((chn_ok w₀ vy hx.2.1 x3 h1 h2).2.2.2.2 a v (by rw [← ea]; exact e2.back pre' w₀ vy)).mono pre
    · rw [if_neg q] at e2 ⊢
      exact ((chn_ok w₀ vn hx.2.2 x3 h1 h2).2.2.2.2 a v (by rw [← ea]; exact e2.back pre' w₀ vn)).mono pre
end Mine
end

section
open PySem PySem.W PyProof.Rows PySem.Calls
set_option Elab.async false
set_option maxRecDepth 100000
set_option linter.unusedVariables false
namespace Mine
def lim : Nat := 2 ^ 20 - 1
structure TopsOk (T : List Int) : Prop where
  len : T.length = 3
  ok : ∀ x, 0 ≤ x → x < 3 → 0 ≤ topOf T x ∧ topOf T x ≤ 2
section
variable {C : Cx} {f : Fm} {st : St} {G : Gd} {D : Dg} {H : Addr → Option AO} {d : Nat} {Q : V → (Addr → Option AO) → Prop}
theorem notIn_memo (o : G.Ok) {k : List Int} : CmpOk C .NotIn (V.ints k) (.raw (.ref G.am)) (DH G D H) (!(mlook D.memo k).isSome) := by
  have := notIn_I (C := C) (k := k) o.m1 (DH_m (G := G) (D := D) (H := H))
  rw [alook_memo] at this
  simpa using this
theorem sub_memo {k : List Int} {r : Int} (h : mlook D.memo k = some r) : SubOk C (.raw (.ref G.am)) (V.ints k) (DH G D H) (.int r) :=
  sub_I (DH_m (G := G) (D := D) (H := H)) (by rw [alook_memo, h]; rfl)
theorem c_choose (o : G.Ok) (hT : TopsOk G.tops) : ∀ (k : Nat) {D : Dg} {H : Addr → Option AO} {Q : V → (Addr → Option AO) → Prop} {c y n l : Int}, Inv G.tops D → sizeD D + gch k ≤ lim → (nd D.nodes c).isSome = true → (nd D.nodes y).isSome = true → (nd D.nodes n).isSome = true →
    l ≤ lv D.nodes c → l ≤ lv D.nodes y → l ≤ lv D.nodes n → (3 - l).toNat ≤ k → (∀ r D', Grow G.tops D D' (gch k) → ChOk G.tops D'.nodes c y n r → Q (.int r) (DH G D' H)) → ∀ {d : Nat}, k + 6 ≤ d → Fn C d (.ref 147) [G.val, .int c, .int y, .int n] (DH G D H) Q := by
  intro k
  induction k using Nat.strongRecOn with
  | _ k ih =>
    intro D H Q c y n l I hsz vc vy vn lc ly ln hk q d hd
    obtain ⟨d, rfl⟩ : ∃ e, d = e + 1 := ⟨d - 1, by (first | lia | omega)⟩
    have hlen : D.nodes.length ≤ 2 ^ 20 := by unfold sizeD lim at hsz; (first | lia | omega)
    refine fn_cell def_choose rfl (by kernel_rfl) (fun n => by kernel_rfl) ?_
    conv => arg 3; whnf
    conv => arg 2; arg 1; whnf
    refine ax_cons (ax1_if (at_cmp (aw_local (u := .int y) rfl (aw_local (u := .int n) rfl ⟨_, cmp_eq, fun e => ?_, fun e => ax_nil ?_⟩))))
    · have e : y = n := by simpa using e
      subst e
      refine ax_cons (ax1_ret (aw_local (u := .int y) rfl (q y D ((Grow.refl I).le (Nat.zero_le _)) ⟨vc, vy, vn, vy, .inr (.inl (Int.le_refl _)), fun a t v ha e1 e2 => by simpa using e2⟩)))
    · have hne : y ≠ n := by simpa using e
      obtain ⟨kc, hkc⟩ := Option.isSome_iff_exists.mp vc
      refine ax_cons (ax1_assign (aw_meth (aw_cell (u := G.val) rfl ⟨.ref 95, _, keep_node, meth_inst pg_node find_node ty_node rfl, aws_cons (aw_local (u := .int c) rfl (aws_nil (m_node o hlen (by dsimp only; (first | lia | omega)) hkc ?_)))⟩)))
      cases kc with
      | leaf t0 =>
        refine aas_tup (us := [.str "leaf", .int t0]) (aas_local (aas_local ?_)) rfl
        refine ax_cons (ax1_if (at_cmp (aw_local rfl (aw_str ⟨_, cmp_eq_ss, fun _ => ?_, fun e => (by simp at e)⟩))))
        refine ax_cons (ax1_ret (aw_ite (at_cmp (aw_local (u := .int t0) rfl (aw_int ⟨_, cmp_eq, fun e => ?_, fun e => ?_⟩)))))
        · have e : t0 = 1 := by simpa using e
          refine aw_local (u := .int y) rfl (q y D ((Grow.refl I).le (Nat.zero_le _)) ⟨vc, vy, vn, vy, .inr (.inl (Int.le_refl _)), fun a t v ha e1 e2 => ?_⟩)
          have : t = 1 := by rw [← e]; exact e1.det (.leaf hkc)
          rw [if_pos this] at e2; exact e2
        · have e : t0 ≠ 1 := by simpa using e
          refine aw_local (u := .int n) rfl (q n D ((Grow.refl I).le (Nat.zero_le _)) ⟨vc, vy, vn, vn, .inr (.inr (Int.le_refl _)), fun a t v ha e1 e2 => ?_⟩)
          have : t ≠ 1 := by rw [← e1.det (.leaf hkc)] at e; exact e
          rw [if_neg this] at e2; exact e2
      | br z ps =>
        have lz : lv D.nodes c = z := by unfold lv; rw [hkc]
        have z3 := (I.wf.ok _ _ _ hkc).x3
        refine aas_tup (us := [.int z, .tup (ps.map V.pair)]) (aas_local (aas_local ?_)) rfl
        refine ax_cons (ax1_if (at_cmp (aw_local rfl (aw_str ⟨_, cmp_eq_is, fun e => (by cases e), fun _ => ax_nil ?_⟩))))
        refine ax_cons (ax1_assign (aw_tup (aws_cons (aw_local (u := .int c) rfl (aws_cons (aw_local (u := .int y) rfl (aws_cons (aw_local (u := .int n) rfl (aws_nil ⟨by simp, aas_local ?_⟩)))))))))
        refine ax_cons (ax1_if (at_cmp (aw_local (u := V.ints [c, y, n]) rfl (aw_memo (aw_cell (u := G.val) rfl ⟨rfl, _, notIn_memo o, fun e => ?_, fun e => ax_nil ?_⟩)))))
        · -- not yet in the memo
          refine ax_cons (ax1_assign (aw_call keep_split (aw_global g_split ⟨rfl, aws_cons (aw_cell (u := G.val) rfl (aws_cons (aw_local (u := V.ints [c, y, n]) rfl (aws_nil ?_))))⟩)))
          refine (c_split o hlen hT.len I.wf hT.ok (ns := [c, y, n]) (.inr rfl) (by intro m hm; simp at hm; rcases hm with rfl | rfl | rfl <;> assumption) (by simp) (n0 := c) (by simp) (by (first | lia | omega)) ?_).le (by dsimp only; (first | lia | omega))
          intro x pcs x0 x3 hle ⟨nx, hnx, hX⟩ P
          refine aas_tup (us := [.int x, .lst (pcs.map pcV)]) (aas_local (aas_local ?_)) rfl
          obtain ⟨k', rfl⟩ : ∃ e, k = e + 1 := ⟨k - 1, by (first | lia | omega)⟩
          have hlx : l ≤ x := by
            rcases List.mem_cons.mp hnx with e | hnx
            · subst e; (first | lia | omega)
            · rcases List.mem_cons.mp hnx with e | hnx
              · subst e; (first | lia | omega)
              · simp at hnx; subst hnx; (first | lia | omega)
          have hgk : gch (k' + 1) = 3 * gch k' + 2 := rfl
          have hpl : pcs.length ≤ 3 := by have := P.len; have := (hT.ok x x0 x3).2; (first | lia | omega)
          refine ax_cons (ax1_comp false (awI_lst (aw_local rfl ⟨_, rfl, .inl ⟨_, _, _, rfl⟩, fun i ys st => st.m "diagrams" = some G.val ∧ ∃ Di ps, A4 (st.H = DH G Di H) (Grow G.tops D Di (i * gch k')) (PcOk G.tops Di.nodes (pcs.take i) ps) (ys = ps.map V.pair), ⟨rfl, D, [], rfl, (Grow.refl I).le (Nat.zero_le _), .nil, rfl⟩, ?_, ?_⟩)) (by rfl) (by simp) ?_)
          · rintro i u ys st₂ hi ⟨e1, Di, ps', e2, g, pk, e3⟩
            obtain ⟨⟨h, ms⟩, hc, rfl⟩ := get_map hi
            obtain ⟨p1, p2, p3⟩ := P.mem _ (List.mem_of_getElem? hc)
            dsimp only at p1 p2 p3
            subst p3
            have hil : i < 3 := by have := (List.getElem?_eq_some_iff.mp hc).1; (first | lia | omega)
            have ht1 := hT.ok x x0 x3
            obtain ⟨-, cv, cl, -, -⟩ := chn_ok I.wf vc (hle c (by simp)) x3 (p := h) (by (first | lia | omega)) p2
            obtain ⟨-, yv, yl, -, -⟩ := chn_ok I.wf vy (hle y (by simp)) x3 (p := h) (by (first | lia | omega)) p2
            obtain ⟨-, nv, nl, -, -⟩ := chn_ok I.wf vn (hle n (by simp)) x3 (p := h) (by (first | lia | omega)) p2
            have hps : ps'.length ≤ 3 := by have := congrArg List.length pk.get.1; simp at this; (first | lia | omega)
            refine aas_tup (us := [.int h, .lst ([chn G.tops D.nodes x h c, chn G.tops D.nodes x h y, chn G.tops D.nodes x h n].map .int)]) (aas_local (aas_local ⟨by rw [e3]; simp; (first | lia | omega), ?_⟩)) rfl
            refine aw_tup (aws_cons (aw_local rfl (aws_cons ?_)))
            refine aw_call keep_choose (aw_global g_choose ⟨rfl, aws_cons (aw_cell e1 (aws_cons (aw_sub (aw_local rfl (aw_int ⟨_, sub_lst (by decide) (by decide) rfl, ?_⟩)) (by dsimp only [compF]; (first | lia | omega)))))⟩)
            refine aws_cons (aw_sub (aw_local rfl (aw_int ⟨_, sub_lst (by decide) (by decide) rfl, ?_⟩)) (by dsimp only [compF]; (first | lia | omega)))
            refine aws_cons (aw_sub (aw_local rfl (aw_int ⟨_, sub_lst (by decide) (by decide) rfl, aws_nil ?_⟩)) (by dsimp only [compF]; (first | lia | omega)))
            try dsimp only [conU, fnQ, fnM, outQ, nx, asQ, retQ, nexQ, endQ, flV]
            rw [e2]
            have hsi := g.size
            have him : i * gch k' ≤ 2 * gch k' := Nat.mul_le_mul_right _ (by (first | lia | omega))
            refine ih k' (by (first | lia | omega)) (l := x + 1) g.inv (by (first | lia | omega)) (g.pre.some cv) (g.pre.some yv) (g.pre.some nv) (by rw [g.pre.lv cv]; (first | lia | omega)) (by rw [g.pre.lv yv]; (first | lia | omega)) (by rw [g.pre.lv nv]; (first | lia | omega)) (by (first | lia | omega)) ?_ (by dsimp only [compF]; (first | lia | omega))
            intro r D' g' ch
            refine aws_nil ⟨by simp, ?_⟩
            refine ⟨e1, D', ps' ++ [(h, r)], rfl, (g.trans g').le (by rw [Nat.add_mul]; (first | lia | omega)), ?_, by rw [e3, List.map_append]; rfl⟩
            rw [take_snoc hc]
            exact .snoc (pk.mono g.inv.wf g'.pre) ch
          · rintro ys st₂ ⟨e1, Dn, ps', e2, g, pk, e3⟩
            rw [List.length_map] at g pk
            rw [List.take_length] at pk
            subst e3
            refine aas_local ?_
            try dsimp only [conU, fnQ, fnM, outQ, nx, asQ, retQ, nexQ, endQ, flV]
            rw [e2]
            have hsi := g.size
            have him : pcs.length * gch k' ≤ 3 * gch k' := Nat.mul_le_mul_right _ hpl
            obtain ⟨pk1, pk2⟩ := pk.get
            have hpsl : ps'.length = pcs.length := by have := congrArg List.length pk1; simpa using this
            have ht1 := hT.ok x x0 x3
            have hpne : ps' ≠ [] := by
              rintro rfl
              have := P.ne (by (first | lia | omega))
              cases pcs with
              | nil => exact this rfl
              | cons _ _ => simp at hpsl
            refine ax_cons (ax1_assign (aw_meth (aw_cell (u := G.val) rfl ⟨.ref 88, _, keep_make, meth_inst pg_make find_make ty_make rfl, aws_cons (aw_local (u := .int x) rfl (aws_cons (aw_local (u := .lst (ps'.map V.pair)) rfl (aws_nil ?_))))⟩)))
            refine (c_make o hT.len g.inv (by unfold sizeD lim at *; (first | lia | omega)) x0 x3 (rise_map (g := fun _ => 0) pk1 (P.rise fun _ => 0)) hpne (by (first | lia | omega)) (fun p hp => ?_) (fun r D' M => ?_)).le (by dsimp only; (first | lia | omega))
            · obtain ⟨i, hi⟩ := List.mem_iff_getElem?.mp hp
              obtain ⟨a, b, c', e5, ch⟩ := pk2 i p hi
              obtain ⟨p1, p2, p3⟩ := P.mem _ (List.mem_of_getElem? e5)
              dsimp only at p1 p2 p3
              simp only [List.map_cons, List.map_nil, List.cons.injEq, and_true] at p3
              obtain ⟨rfl, rfl, rfl⟩ := p3
              refine ⟨ch.vr, ?_⟩
              obtain ⟨-, cv, cl, -, -⟩ := chn_ok I.wf vc (hle c (by simp)) x3 (p := p.1) (by (first | lia | omega)) p2
              obtain ⟨-, yv, yl, -, -⟩ := chn_ok I.wf vy (hle y (by simp)) x3 (p := p.1) (by (first | lia | omega)) p2
              obtain ⟨-, nv, nl, -, -⟩ := chn_ok I.wf vn (hle n (by simp)) x3 (p := p.1) (by (first | lia | omega)) p2
              rcases ch.lr with h | h | h
              · rw [g.pre.lv cv] at h; (first | lia | omega)
              · rw [g.pre.lv yv] at h; (first | lia | omega)
              · rw [g.pre.lv nv] at h; (first | lia | omega)
            · have ch := choose_made I.wf g.pre g.inv.wf x0 x3 ht1.1 vc vy vn ⟨hle c (by simp), hle y (by simp), hle n (by simp)⟩ (by
                rcases List.mem_cons.mp hnx with e | hnx
                · subst e; exact .inl hX
                · rcases List.mem_cons.mp hnx with e | hnx
                  · subst e; exact .inr (.inl hX)
                  · simp at hnx; subst hnx; exact .inr (.inr hX)) P pk M
              have g2 := g.trans M.grow
              have g3 := g2.trans (Grow.put M.grow.inv ch)
              have hs2 := g2.size
              refine aas_sub (aw_memo (aw_cell (u := G.val) rfl ⟨rfl, aw_local (u := V.ints [c, y, n]) rfl ⟨G.am, _, _, rfl, DH_m, set_I (by rw [memoOf_len]; unfold sizeD lim at *; (first | lia | omega)), ?_⟩⟩)) (by dsimp only; (first | lia | omega))
              try dsimp only [conU, fnQ, fnM, outQ, nx, asQ, retQ, nexQ, endQ, flV]
              rw [aput_memo, DH_setM]
              refine ax_nil (ax_cons (ax1_ret (aw_sub (aw_memo (aw_cell (u := G.val) rfl ⟨rfl, aw_local (u := V.ints [c, y, n]) rfl ⟨_, sub_memo mlook_put, ?_⟩⟩)) (by dsimp only; (first | lia | omega)))))
              exact q r _ (g3.le (by (first | lia | omega))) ch
          · intro env e; obtain ⟨s1, s2, s3, s4, s5, s6, s7, s8, s9⟩ := env; dsimp only at e; subst e; rfl
        · obtain ⟨r, hr⟩ : ∃ r, mlook D.memo [c, y, n] = some r := by
            cases hm : mlook D.memo [c, y, n] with
            | none => rw [hm] at e; cases e
            | some r => exact ⟨r, rfl⟩
          refine ax_cons (ax1_ret (aw_sub (aw_memo (aw_cell (u := G.val) rfl ⟨rfl, aw_local (u := V.ints [c, y, n]) rfl ⟨_, sub_memo hr, ?_⟩⟩)) (by dsimp only; (first | lia | omega))))
          obtain ⟨c', y', n', h1, h2⟩ := I.memo _ (mlook_mem hr)
          simp only [List.cons.injEq, and_true] at h1
          obtain ⟨rfl, rfl, rfl⟩ := h1
          exact q r D ((Grow.refl I).le (Nat.zero_le _)) h2
end
end Mine
end

section
open PySem PySem.W PyProof.Rows PySem.Calls
set_option Elab.async false
set_option maxRecDepth 100000
set_option linter.unusedVariables false
namespace Mine
/-- r tells the truth φ -/
structure Tells (T : List Int) (ns : List Node) (r : Int) (φ : (Int → Int) → Bool) : Prop where
  v : (nd ns r).isSome = true
  ev : ∀ a, okA T a → Ev ns r a (if φ a then 1 else 0)
theorem Tells.mono {T : List Int} {ns ns' : List Node} {r : Int} {φ : (Int → Int) → Bool} (h : Pre ns ns') (x : Tells T ns r φ) : Tells T ns' r φ := ⟨h.some x.v, fun a ha => (x.ev a ha).mono h⟩
theorem Tells.leaf {T : List Int} {ns : List Node} {r : Int} {b : Bool} (h : nd ns r = some (.leaf (if b then 1 else 0))) : Tells T ns r (fun _ => b) := ⟨by rw [h]; rfl, fun a _ => .leaf h⟩
theorem Tells.choose {T : List Int} {ns : List Node} {c y n r : Int} {φ ψ χ : (Int → Int) → Bool} (h : ChOk T ns c y n r) (hc : Tells T ns c φ) (hy : Tells T ns y ψ) (hn : Tells T ns n χ) : Tells T ns r (fun a => if φ a then ψ a else χ a) where
  v := h.vr
  ev := fun a ha => by
    refine h.ev a _ _ ha (hc.ev a ha) ?_
    by_cases q : φ a = true
    · simp only [q, if_true]; exact hy.ev a ha
    · have q' : φ a = false := by simpa using q
      simp only [q', Bool.false_eq_true, if_false]
      rw [if_neg (by decide)]
      exact hn.ev a ha
section
variable {C : Cx} {f : Fm} {st : St} {G : Gd} {D : Dg} {H : Addr → Option AO} {d : Nat} {Q : V → (Addr → Option AO) → Prop}
theorem m_leaf (o : G.Ok) {T : List Int} (I : Inv T D) (hn : sizeD D ≤ lim) (hd : 3 ≤ d) {v : Int} (q : ∀ r D', Grow T D D' 1 → nd D'.nodes r = some (.leaf v) → Q (.int r) (DH G D' H)) : Fn C d (.ref 81) [G.val, .int v] (DH G D H) Q :=
  (c_leaf o (by unfold sizeD lim at hn; (first | lia | omega)) (q _ _ (Grow.keep I fun x ps e => by cases e) keepN_nd)).le hd
theorem gch3 : gch 3 = 26 := rfl
theorem m_choose (o : G.Ok) (hT : TopsOk G.tops) {c y n : Int} {φ ψ χ : (Int → Int) → Bool} (I : Inv G.tops D) (hn : sizeD D + 26 ≤ lim) (hd : 9 ≤ d) (hc : Tells G.tops D.nodes c φ) (hy : Tells G.tops D.nodes y ψ) (hx : Tells G.tops D.nodes n χ)
    (q : ∀ r D', Grow G.tops D D' 26 → Tells G.tops D'.nodes r (fun a => if φ a then ψ a else χ a) → Q (.int r) (DH G D' H)) : Fn C d (.ref 147) [G.val, .int c, .int y, .int n] (DH G D H) Q :=
  c_choose o hT 3 (l := 0) I hn hc.v hy.v hx.v (lv_le I.wf c).1 (lv_le I.wf y).1 (lv_le I.wf n).1 (by decide) (fun r D' g ch => q r D' g (.choose ch (hc.mono g.pre) (hy.mono g.pre) (hx.mono g.pre))) (by (first | lia | omega))
theorem c_both (o : G.Ok) (hT : TopsOk G.tops) {a b : Int} {φ ψ : (Int → Int) → Bool} (I : Inv G.tops D) (hn : sizeD D + 30 ≤ lim) (ha : Tells G.tops D.nodes a φ) (hb : Tells G.tops D.nodes b ψ)
    (q : ∀ r D', Grow G.tops D D' 30 → Tells G.tops D'.nodes r (fun x => φ x && ψ x) → Q (.int r) (DH G D' H)) : Fn C 10 (.ref 154) [G.val, .int a, .int b] (DH G D H) Q := by
  refine fn_plain def_both rfl (by kernel_rfl) ?_
  conv => arg 3; whnf
  conv => arg 2; arg 1; whnf
  refine ax_cons (ax1_ret (aw_call keep_choose (aw_global g_choose ⟨rfl, aws_cons (aw_local (u := G.val) rfl (aws_cons (aw_local (u := .int a) rfl (aws_cons (aw_local (u := .int b) rfl (aws_cons ?_))))))⟩)))
  refine aw_meth (aw_local (u := G.val) rfl ⟨.ref 81, _, keep_leaf, meth_inst pg_leaf find_leaf ty_leaf rfl, aws_cons (aw_int (aws_nil (m_leaf o I (by (first | lia | omega)) (by decide) fun r D1 g hr => aws_nil ?_)))⟩)
  have hs := g.size
  refine m_choose o hT g.inv (by (first | lia | omega)) (by decide) (ha.mono g.pre) (hb.mono g.pre) (Tells.leaf (b := false) hr) fun r' D2 g2 ht => q r' D2 ((g.trans g2).le (by (first | lia | omega))) ?_
  have : (fun a => if φ a then ψ a else false) = fun x => φ x && ψ x := by funext x; cases φ x <;> rfl
  rw [← this]; exact ht
theorem c_either (o : G.Ok) (hT : TopsOk G.tops) {a b : Int} {φ ψ : (Int → Int) → Bool} (I : Inv G.tops D) (hn : sizeD D + 30 ≤ lim) (ha : Tells G.tops D.nodes a φ) (hb : Tells G.tops D.nodes b ψ)
    (q : ∀ r D', Grow G.tops D D' 30 → Tells G.tops D'.nodes r (fun x => φ x || ψ x) → Q (.int r) (DH G D' H)) : Fn C 10 (.ref 161) [G.val, .int a, .int b] (DH G D H) Q := by
  refine fn_plain def_either rfl (by kernel_rfl) ?_
  conv => arg 3; whnf
  conv => arg 2; arg 1; whnf
  refine ax_cons (ax1_ret (aw_call keep_choose (aw_global g_choose ⟨rfl, aws_cons (aw_local (u := G.val) rfl (aws_cons (aw_local (u := .int a) rfl (aws_cons ?_))))⟩)))
  refine aw_meth (aw_local (u := G.val) rfl ⟨.ref 81, _, keep_leaf, meth_inst pg_leaf find_leaf ty_leaf rfl, aws_cons (aw_int (aws_nil (m_leaf o I (by (first | lia | omega)) (by decide) fun r D1 g hr => aws_cons (aw_local (u := .int b) rfl (aws_nil ?_)))))⟩)
  have hs := g.size
  refine m_choose o hT g.inv (by (first | lia | omega)) (by decide) (ha.mono g.pre) (Tells.leaf (b := true) hr) (hb.mono g.pre) fun r' D2 g2 ht => q r' D2 ((g.trans g2).le (by (first | lia | omega))) ?_
  have : (fun a => if φ a then true else ψ a) = fun x => φ x || ψ x := by funext x; cases φ x <;> rfl
  rw [← this]; exact ht
theorem c_negate (o : G.Ok) (hT : TopsOk G.tops) {a : Int} {φ : (Int → Int) → Bool} (I : Inv G.tops D) (hn : sizeD D + 30 ≤ lim) (ha : Tells G.tops D.nodes a φ)
    (q : ∀ r D', Grow G.tops D D' 30 → Tells G.tops D'.nodes r (fun x => !(φ x)) → Q (.int r) (DH G D' H)) : Fn C 10 (.ref 168) [G.val, .int a] (DH G D H) Q := by
  refine fn_plain def_negate rfl (by kernel_rfl) ?_
  conv => arg 3; whnf
  conv => arg 2; arg 1; whnf
  refine ax_cons (ax1_ret (aw_call keep_choose (aw_global g_choose ⟨rfl, aws_cons (aw_local (u := G.val) rfl (aws_cons (aw_local (u := .int a) rfl (aws_cons ?_))))⟩)))
  refine aw_meth (aw_local (u := G.val) rfl ⟨.ref 81, _, keep_leaf, meth_inst pg_leaf find_leaf ty_leaf rfl, aws_cons (aw_int (aws_nil (m_leaf o I (by (first | lia | omega)) (by decide) fun r D1 g hr => aws_cons ?_)))⟩)
  have hs := g.size
  refine aw_meth (aw_local (u := G.val) rfl ⟨.ref 81, _, keep_leaf, meth_inst pg_leaf find_leaf ty_leaf rfl, aws_cons (aw_int (aws_nil (m_leaf o g.inv (by (first | lia | omega)) (by decide) fun r2 D2 g2 hr2 => aws_nil ?_)))⟩)
  have hs2 := g2.size
  refine m_choose o hT g2.inv (by (first | lia | omega)) (by decide) ((ha.mono g.pre).mono g2.pre) ((Tells.leaf (b := false) hr).mono g2.pre) (Tells.leaf (b := true) hr2) fun r' D3 g3 ht => q r' D3 (((g.trans g2).trans g3).le (by (first | lia | omega))) ?_
  have : (fun a => if φ a then false else true) = fun x => !(φ x) := by funext x; cases φ x <;> rfl
  rw [← this]; exact ht
end
end Mine
end

section
set_option Elab.async false
set_option linter.unusedVariables false
namespace Mine
def inS (l : List (Int × Int)) (n : Int) : Prop := ∃ p ∈ l, p.1 ≤ n ∧ n ≤ p.2
def withinB (l : List (Int × Int)) (n : Int) : Bool := l.any fun p => decide (p.1 ≤ n) && decide (n ≤ p.2)
theorem withinB_iff {l : List (Int × Int)} {n : Int} : withinB l n = true ↔ inS l n := by
  unfold withinB inS; simp [List.any_eq_true]
theorem withinB_congr {l l' : List (Int × Int)} {n : Int} (h : inS l n ↔ inS l' n) : withinB l n = withinB l' n := by
  rw [Bool.eq_iff_iff, withinB_iff, withinB_iff]; exact h
def tstep (acc : List (Int × Int)) (p : Int × Int) : List (Int × Int) := match acc.getLast? with
  | some q => if p.1 ≤ q.2 + 1 then (if p.2 > q.2 then acc.dropLast ++ [(q.1, p.2)] else acc) else acc ++ [p]
  | none => [p]
def Tdy : List (Int × Int) → Prop
  | [] => True
  | [p] => p.1 ≤ p.2
  | p :: q :: r => p.1 ≤ p.2 ∧ p.2 + 1 < q.1 ∧ Tdy (q :: r)
theorem tdy_append {acc : List (Int × Int)} {p : Int × Int} (h : Tdy acc) (hp : p.1 ≤ p.2) (hq : ∀ q, acc.getLast? = some q → q.2 + 1 < p.1) : Tdy (acc ++ [p]) := by
  induction acc with
  | nil => exact hp
  | cons a r ih =>
    cases r with
    | nil => exact ⟨h, hq a rfl, hp⟩
    | cons b s => exact ⟨h.1, h.2.1, ih h.2.2 fun q e => hq q (by rw [List.getLast?_cons_cons]; exact e)⟩
theorem tdy_last {l : List (Int × Int)} {q : Int × Int} {v : Int} (h : Tdy (l ++ [q])) (hv : q.2 ≤ v) : Tdy (l ++ [(q.1, v)]) := by
  induction l with
  | nil => have : q.1 ≤ q.2 := h; exact Int.le_trans this hv
  | cons a r ih =>
    cases r with
    | nil => exact ⟨h.1, h.2.1, ih h.2.2⟩
    | cons b s => exact ⟨h.1, h.2.1, ih h.2.2⟩
structure TdI (pre acc : List (Int × Int)) (rest : List (Int × Int)) : Prop where
  t : Tdy acc
  s : ∀ n, inS acc n ↔ inS pre n
  l : ∀ p ∈ acc, ∀ r ∈ rest, p.1 ≤ r.1
  c : acc.length ≤ pre.length
theorem inS_append {l m : List (Int × Int)} {n : Int} : inS (l ++ m) n ↔ inS l n ∨ inS m n := by
  unfold inS
  constructor
  · rintro ⟨p, hp, h⟩
    rcases List.mem_append.mp hp with q | q
    · exact .inl ⟨p, q, h⟩
    · exact .inr ⟨p, q, h⟩
  · rintro (⟨p, q, h⟩ | ⟨p, q, h⟩)
    · exact ⟨p, List.mem_append_left _ q, h⟩
    · exact ⟨p, List.mem_append_right _ q, h⟩
theorem inS_one {p : Int × Int} {n : Int} : inS [p] n ↔ p.1 ≤ n ∧ n ≤ p.2 := by unfold inS; simp
theorem TdI.step {pre acc rest : List (Int × Int)} {p : Int × Int} (I : TdI pre acc (p :: rest)) (hp : p.1 ≤ p.2) (hs : ∀ r ∈ rest, p.1 ≤ r.1) : TdI (pre ++ [p]) (tstep acc p) rest := by
  unfold tstep
  cases e : acc.getLast? with
  | none =>
    have : acc = [] := List.getLast?_eq_none_iff.mp e
    subst this
    refine ⟨hp, fun n => ?_, fun q hq r hr => ?_, by simp⟩
    · rw [inS_append, ← I.s]; unfold inS; simp
    · simp at hq; subst hq; exact hs r hr
  | some q =>
    obtain ⟨l, rfl⟩ := last_split e
    have hql : q.1 ≤ p.1 := I.l q (by simp) p (.head _)
    dsimp only
    by_cases c1 : p.1 ≤ q.2 + 1
    · rw [if_pos c1]
      by_cases c2 : p.2 > q.2
      · rw [if_pos c2, List.dropLast_concat]
        refine ⟨tdy_last I.t (by (first | lia | omega)), fun n => ?_, fun a ha r hr => ?_, by have := I.c; simp at this ⊢; (first | lia | omega)⟩
        · rw [inS_append (l := pre), ← I.s, inS_append, inS_append, inS_one, inS_one, inS_one]
          dsimp only
          constructor
          · rintro (h | ⟨h1, h2⟩)
            · exact .inl (.inl h)
            · by_cases z : n ≤ q.2
              · exact .inl (.inr ⟨h1, z⟩)
              · exact .inr ⟨by (first | lia | omega), h2⟩
          · rintro ((h | ⟨h1, h2⟩) | ⟨h1, h2⟩)
            · exact .inl h
            · exact .inr ⟨h1, by (first | lia | omega)⟩
            · exact .inr ⟨by (first | lia | omega), h2⟩
        · rcases List.mem_append.mp ha with ha | ha
          · exact I.l a (List.mem_append_left _ ha) r (.tail _ hr)
          · simp at ha; subst ha; exact I.l q (by simp) r (.tail _ hr)
      · rw [if_neg c2]
        refine ⟨I.t, fun n => ?_, fun a ha r hr => I.l a ha r (.tail _ hr), by have := I.c; simp at this ⊢; (first | lia | omega)⟩
        rw [inS_append (l := pre), ← I.s, inS_one]
        constructor
        · exact .inl
        · rintro (h | ⟨h1, h2⟩)
          · exact h
          · exact inS_append.mpr (.inr (inS_one.mpr ⟨by (first | lia | omega), by (first | lia | omega)⟩))
    · rw [if_neg c1]
      refine ⟨tdy_append I.t hp fun q' hq' => ?_, fun n => ?_, fun a ha r hr => ?_, by have := I.c; simp at this ⊢; (first | lia | omega)⟩
      · rw [e] at hq'; cases hq'; (first | lia | omega)
      · rw [inS_append (l := pre), ← I.s, inS_append (m := [p])]
      · rcases List.mem_append.mp ha with ha | ha
        · exact I.l a ha r (.tail _ hr)
        · simp at ha; subst ha; exact hs r hr
theorem tdy_lows {p : Int × Int} : ∀ {r : List (Int × Int)}, Tdy (p :: r) → p.1 ≤ p.2 ∧ (∀ q ∈ r, p.2 + 1 < q.1) ∧ Tdy r
  | [], h => ⟨h, (fun _ hq => by cases hq), trivial⟩
  | q :: r, h => by
    obtain ⟨a, b, c⟩ := tdy_lows h.2.2
    refine ⟨h.1, fun x hx => ?_, h.2.2⟩
    rcases List.mem_cons.mp hx with rfl | hx
    · exact h.2.1
    · have := b x hx; have := h.2.1; (first | lia | omega)
theorem tdy_drop {fs : List (Int × Int)} (h : Tdy fs) : ∀ i, Tdy (fs.drop i)
  | 0 => by simpa using h
  | i + 1 => by
    have ih := tdy_drop h i
    by_cases q : i < fs.length
    · rw [List.drop_eq_getElem_cons q] at ih
      exact (tdy_lows ih).2.2
    · rw [List.drop_eq_nil_of_le (by (first | lia | omega))]; trivial
/-- the parts of a test -/
structure TsI (fs : List (Int × Int)) (top yes no : Int) (i : Nat) (at' : Int) (ps : List (Int × Int)) : Prop where
  a0 : 0 ≤ at'
  r : Rise (-1) ps (min (at' - 1) top)
  p : ∀ p, 0 ≤ p → p ≤ min (at' - 1) top → pick ps p = some (if withinB fs p then yes else no)
  n : ∀ r ∈ fs.drop i, at' ≤ r.1
  d : ∀ r ∈ fs.take i, r.2 < at' ∨ top < r.1
  y : ∀ q ∈ ps, q.2 = yes ∨ q.2 = no
  c : ps.length ≤ 2 * i
theorem pick_snoc {a b h m p : Int} {ps : List (Int × Int)} (H : Rise a ps b) (h1 : b < p) (h2 : p ≤ h) : pick (ps ++ [(h, m)]) p = some m := by
  rw [pick_append, pick_none H h1, Option.none_or]; unfold pick; rw [if_pos h2]
theorem pick_old {h m p k : Int} {ps : List (Int × Int)} (e : pick ps p = some k) : pick (ps ++ [(h, m)]) p = some k := by
  rw [pick_append, e]; rfl
theorem TsI.start {fs : List (Int × Int)} {top yes no : Int} (h0 : ∀ r ∈ fs, 0 ≤ r.1) (ht : 0 ≤ top) : TsI fs top yes no 0 0 [] :=
  ⟨Int.le_refl _, by show -1 = min (0 - 1) top; (first | lia | omega), fun p h1 h2 => by (first | lia | omega), by simpa using h0, (fun r hr => by simp at hr), (fun q hq => by cases hq), Nat.le_refl _⟩
def tsAdd (ps : List (Int × Int)) (at' top yes no low high : Int) : List (Int × Int) := (if low > at' then ps ++ [(low - 1, no)] else ps) ++ [(min high top, yes)]
theorem TsI.add {fs : List (Int × Int)} {top yes no at' low high : Int} {i : Nat} {ps : List (Int × Int)} (I : TsI fs top yes no i at' ps) (t : Tdy fs) (e : fs[i]? = some (low, high)) (h : low ≤ top) : TsI fs top yes no (i + 1) (high + 1) (tsAdd ps at' top yes no low high) := by
  have hlt : i < fs.length := (List.getElem?_eq_some_iff.mp e).1
  have hd : fs.drop i = (low, high) :: fs.drop (i + 1) := by
    have := List.drop_eq_getElem_cons hlt
    rw [(List.getElem?_eq_some_iff.mp e).2] at this; exact this
  have td := tdy_drop t i
  rw [hd] at td
  obtain ⟨t1, t2, t3⟩ := tdy_lows td
  dsimp only at t1 t2
  have hn := I.n
  rw [hd] at hn
  have hal : at' ≤ low := hn (low, high) (.head _)
  have a0 := I.a0
  have hcur : min (at' - 1) top = at' - 1 := by (first | lia | omega)
  have R := I.r
  have P := I.p
  rw [hcur] at R P
  have out : ∀ p, at' ≤ p → p < low → withinB fs p = false := fun p h1 h2 => by
    cases z : withinB fs p with
    | false => rfl
    | true =>
      obtain ⟨r, hr, q1, q2⟩ := withinB_iff.mp z
      rw [← List.take_append_drop i fs] at hr
      rcases List.mem_append.mp hr with hr | hr
      · rcases I.d r hr with q | q <;> (first | lia | omega)
      · rw [hd] at hr
        rcases List.mem_cons.mp hr with rfl | hr
        · dsimp only at q1; (first | lia | omega)
        · have := t2 r hr; (first | lia | omega)
  have inn : ∀ p, low ≤ p → p ≤ high → withinB fs p = true := fun p h1 h2 => withinB_iff.mpr ⟨(low, high), List.mem_of_getElem? e, h1, h2⟩
  -- the gap
  have gap : ∃ b, b = low - 1 ∧ Rise (-1) (if low > at' then ps ++ [(low - 1, no)] else ps) b ∧ ∀ p, 0 ≤ p → p ≤ b → pick (if low > at' then ps ++ [(low - 1, no)] else ps) p = some (if withinB fs p then yes else no) := by
    refine ⟨low - 1, rfl, ?_⟩
    by_cases c : low > at'
    · rw [if_pos c]
      refine ⟨rise_append R (by (first | lia | omega)), fun p h1 h2 => ?_⟩
      by_cases z : p ≤ at' - 1
      · exact pick_old (P p h1 z)
      · rw [pick_snoc R (by (first | lia | omega)) h2, out p (by (first | lia | omega)) (by (first | lia | omega))]; rfl
    · rw [if_neg c]
      have : at' - 1 = low - 1 := by (first | lia | omega)
      rw [← this]; exact ⟨R, P⟩
  obtain ⟨b, rfl, g1, g2⟩ := gap
  have hmin : min (high + 1 - 1) top = min high top := by rw [show high + 1 - 1 = high by (first | lia | omega)]
  refine ⟨by (first | lia | omega), ?_, fun p h1 h2 => ?_, fun r hr => by have := t2 r hr; (first | lia | omega), fun r hr => ?_, fun q hq => ?_, ?_⟩
  · rw [hmin]; exact rise_append g1 (by (first | lia | omega))
  · rw [hmin] at h2
    by_cases z : p ≤ low - 1
    · exact pick_old (g2 p h1 z)
    · unfold tsAdd; rw [pick_snoc g1 (by (first | lia | omega)) h2, inn p (by (first | lia | omega)) (by (first | lia | omega))]; rfl
  · rw [take_snoc e] at hr
    rcases List.mem_append.mp hr with hr | hr
    · rcases I.d r hr with q | q
      · exact .inl (by (first | lia | omega))
      · exact .inr q
    · simp at hr; subst hr; exact .inl (by dsimp only; (first | lia | omega))
  · unfold tsAdd at hq
    rcases List.mem_append.mp hq with hq | hq
    · split at hq
      · rcases List.mem_append.mp hq with hq | hq
        · exact I.y q hq
        · simp at hq; subst hq; exact .inr rfl
      · exact I.y q hq
    · simp at hq; subst hq; exact .inl rfl
  · have := I.c
    unfold tsAdd
    split <;> simp <;> (first | lia | omega)
theorem TsI.skip {fs : List (Int × Int)} {top yes no at' low high : Int} {i : Nat} {ps : List (Int × Int)} (I : TsI fs top yes no i at' ps) (e : fs[i]? = some (low, high)) (h : ¬ low ≤ top) : TsI fs top yes no (i + 1) at' ps := by
  refine ⟨I.a0, I.r, I.p, fun r hr => I.n r ?_, fun r hr => ?_, I.y, by have := I.c; (first | lia | omega)⟩
  · have hlt : i < fs.length := (List.getElem?_eq_some_iff.mp e).1
    rw [List.drop_eq_getElem_cons hlt]; exact .tail _ hr
  · rw [take_snoc e] at hr
    rcases List.mem_append.mp hr with hr | hr
    · exact I.d r hr
    · simp at hr; subst hr; exact .inr (by dsimp only; (first | lia | omega))
def tsEnd (ps : List (Int × Int)) (at' top no : Int) : List (Int × Int) := if at' ≤ top then ps ++ [(top, no)] else ps
theorem TsI.done {fs : List (Int × Int)} {top yes no at' : Int} {ps : List (Int × Int)} (I : TsI fs top yes no fs.length at' ps) (ht : 0 ≤ top) : Rise (-1) (tsEnd ps at' top no) top ∧ (∀ p, 0 ≤ p → p ≤ top → pick (tsEnd ps at' top no) p = some (if withinB fs p then yes else no)) ∧ (∀ q ∈ tsEnd ps at' top no, q.2 = yes ∨ q.2 = no) := by
  have R := I.r
  have P := I.p
  have a0 := I.a0
  unfold tsEnd
  by_cases c : at' ≤ top
  · rw [if_pos c]
    have hcur : min (at' - 1) top = at' - 1 := by (first | lia | omega)
    rw [hcur] at R P
    refine ⟨rise_append R (by (first | lia | omega)), fun p h1 h2 => ?_, fun q hq => ?_⟩
    · by_cases z : p ≤ at' - 1
      · exact pick_old (P p h1 z)
      · have : withinB fs p = false := by
          cases z' : withinB fs p with
          | false => rfl
          | true =>
            obtain ⟨r, hr, q1, q2⟩ := withinB_iff.mp z'
            rcases I.d r (by rw [List.take_length]; exact hr) with q | q <;> (first | lia | omega)
        rw [pick_snoc R (by (first | lia | omega)) h2, this]; rfl
    · rcases List.mem_append.mp hq with hq | hq
      · exact I.y q hq
      · simp at hq; subst hq; exact .inr rfl
  · rw [if_neg c]
    have hcur : min (at' - 1) top = top := by (first | lia | omega)
    rw [hcur] at R P
    exact ⟨R, P, I.y⟩
end Mine
end

section
open PySem PySem.W PyProof.Rows PySem.Calls
set_option Elab.async false
set_option maxRecDepth 100000
set_option linter.unusedVariables false
namespace Mine
section
variable {C : Cx} {f : Fm} {st : St} {G : Gd} {D : Dg} {H : Addr → Option AO} {d : Nat} {Q : V → (Addr → Option AO) → Prop}
theorem tr_listH {a : Addr} {l : List V} (hH : H a = some (.list l)) (hn : l.length < 2 ^ 62) : TruthOk C (.raw (.ref a)) H (!l.isEmpty) := by
  intro P K A s va Qc E hA R ra k
  (first | cases ra.raw' | obtain ⟨_, rfl⟩ := ra.int' | obtain ⟨_, rfl⟩ := ra.str' | cases ra.bool' | cases ra)
  obtain ⟨⟨ob, ho, ws, n, rfl, rs⟩, _⟩ := R.objs _ _ hH
  have e : ws.size = l.length := by rw [← Array.length_toList, ← rs.length]
  refine wpAny_truthy_list (items := ws) ⟨_, ho, rfl, n, rfl⟩ (by (first | lia | omega)) ?_
  have e2 : (!l.isEmpty) = (!ws.isEmpty) := by
    cases l with
    | nil => simp at e; simp [e]
    | cons _ _ =>
      have : ws ≠ #[] := by rintro rfl; simp at e
      simp [this]
  rw [← e2]; exact k _
theorem c_tidy {spans : List (Int × Int)} (hn : spans.length ≤ 3) (hs : ∀ p ∈ spans, p.1 ≤ p.2) (q : ∀ fs, Tdy fs → (∀ n, inS fs n ↔ inS spans n) → fs.length ≤ 3 → Q (.lst (fs.map V.pair)) H) : Fn C 2 (.ref 53) [.lst (spans.map V.pair)] H Q := by
  refine fn_plain def_tidy rfl (by kernel_rfl) ?_
  conv => arg 3; whnf
  conv => arg 2; arg 1; whnf
  refine ax_cons (ax1_assign (aw_listH (aws_nil ⟨by simp, fun fa hfa => aas_local ?_⟩)))
  dsimp only at hfa
  refine ax_cons (ax1_for (awI_lst (aw_call keeps1_builtin (aw_builtin n_sorted rfl ⟨rfl, aws_cons (aw_local (u := .lst (spans.map V.pair)) rfl (aws_nil (fn_sorted hn fun l' hp ho => ?_)))⟩))))
  have hlen := hp.length_eq
  have hinS : ∀ n, inS l' n ↔ inS spans n := fun n => by
    unfold inS
    constructor
    · rintro ⟨p, h, r⟩; exact ⟨p, hp.mem_iff.mp h, r⟩
    · rintro ⟨p, h, r⟩; exact ⟨p, hp.mem_iff.mpr h, r⟩
  refine ⟨_, rfl, .inl ⟨_, _, _, rfl⟩, fun i st => st.m "found" = some (.raw (.ref fa)) ∧ ∃ acc, st.H = hput H fa (.list (acc.map V.pair)) ∧ TdI (l'.take i) acc (l'.drop i), ⟨rfl, [], rfl, trivial, fun n => by simp [inS], (fun p hp => by cases hp), Nat.le_refl _⟩, ?_, ?_⟩
  · rintro i u st₂ hi ⟨e1, acc, e2, I⟩
    obtain ⟨⟨low, high⟩, hc, rfl⟩ := get_map hi
    have hlt := (List.getElem?_eq_some_iff.mp hc).1
    have hdrop : l'.drop i = (low, high) :: l'.drop (i + 1) := by
      have := List.drop_eq_getElem_cons hlt
      rw [(List.getElem?_eq_some_iff.mp hc).2] at this; exact this
    rw [hdrop] at I
    have hlo : low ≤ high := hs (low, high) (hp.mem_iff.mp (List.mem_of_getElem? hc))
    have hsorted : ∀ r ∈ l'.drop (i + 1), low ≤ r.1 := fun r hr => by
      have : (l'.drop i).Pairwise (·.1 ≤ ·.1) := ho.drop
      rw [hdrop] at this
      exact (List.pairwise_cons.mp this).1 r hr
    have I' := I.step hlo hsorted
    rw [← take_snoc hc] at I'
    have hacc : acc.length ≤ 3 := by have := I.c; simp at this; (first | lia | omega)
    have hH : st₂.H fa = some (.list (acc.map V.pair)) := by rw [e2]; exact hput_self
    refine aas_tup (us := [.int low, .int high]) (aas_local (aas_local ?_)) rfl
    refine ax_cons (ax1_if (at_and (at_val (aw_local e1 ⟨_, tr_listH hH (by simp; (first | lia | omega)), fun e => ⟨fun e => (by cases e), fun _ => ?_⟩, fun e => ?_⟩))))
    · have h0 : acc = [] := by simpa using e
      subst h0
      refine ax_cons (ax1_expr ?_ (by intro _ e; unfold interactive; rw [e]; rfl))
      refine aw_meth (aw_local e1 ⟨.builtin "list.append", _, keeps1_builtin, meth_list hH F.slot_list_append rfl, aws_cons (aw_tup (aws_cons (aw_local rfl (aws_cons (aw_local rfl (aws_nil ⟨by simp, aws_nil ?_⟩))))))⟩)
      refine fn_append hH (by simp) (ax_nil (ax_nil ⟨e1, _, ?_, I'⟩))
      try dsimp only [conU, fnQ, fnM, outQ, nx, asQ, retQ, nexQ, endQ, flV]
      rw [e2, hput_put]; rfl
    · have h0 : acc ≠ [] := by rintro rfl; simp at e
      obtain ⟨⟨ql, qh⟩, hq⟩ : ∃ q, acc.getLast? = some q := ⟨_, List.getLast?_eq_some_getLast h0⟩
      have hpos : 0 < acc.length := List.length_pos_iff.mpr h0
      have lastOk : ∀ st : St, st.H fa = some (.list (acc.map V.pair)) → SubOk C (.raw (.ref fa)) (.int (-1)) st.H (V.pair (ql, qh)) := fun st hh => sub_HN hh (by decide) (by simp; (first | lia | omega)) (by decide) (last_V hq)
      refine at_cmp (aw_local rfl (aw_BinOp (aw_sub (aw_sub (aw_local e1 (aw_neg (aw_int ⟨_, rfl, _, lastOk _ hH, aw_int ⟨_, sub_tup0 (by decide) (by decide) rfl, aw_int ⟨_, bin_add, _, cmp_le, fun e => ?_, fun e => ?_⟩⟩⟩))) (by decide)) (by decide))))
      · have c1 : low ≤ qh + 1 := of_decide_eq_true e
        refine ax_cons (ax1_if (at_cmp (aw_local rfl (aw_sub (aw_sub (aw_local e1 (aw_neg (aw_int ⟨_, rfl, _, lastOk _ hH, aw_int ⟨_, sub_tup0 (by decide) (by decide) rfl, _, cmp_gt, fun e => ?_, fun e => ax_nil ?_⟩⟩))) (by decide)) (by decide)))))
        · have c2 : high > qh := of_decide_eq_true e
          have et : tstep acc (low, high) = acc.dropLast ++ [(ql, high)] := by unfold tstep; rw [hq]; simp [c1, c2]
          refine ax_cons (ax1_assign (aw_tup (aws_cons (aw_sub (aw_sub (aw_local e1 (aw_neg (aw_int ⟨_, rfl, _, lastOk _ hH, aw_int ⟨_, sub_tup0 (by decide) (by decide) rfl, aws_cons (aw_local rfl (aws_nil ⟨by simp, ?_⟩))⟩⟩))) (by decide)) (by decide)))))
          refine aas_sub (aw_local e1 (aw_neg (aw_int ⟨_, rfl, fa, _, _, rfl, hH, set_listN (by decide) (by simp; (first | lia | omega)) (by decide), ?_⟩))) (by decide)
          refine ax_nil (ax_nil (ax_nil ⟨e1, _, ?_, I'⟩))
          try dsimp only [conU, fnQ, fnM, outQ, nx, asQ, retQ, nexQ, endQ, flV]
          rw [e2, hput_put, et, ← set_last hq]; rfl
        · have c2 : ¬ high > qh := of_decide_eq_false e
          have et : tstep acc (low, high) = acc := by unfold tstep; rw [hq]; simp [c1, c2]
          exact ax_nil (ax_nil ⟨e1, _, by rw [et]; exact e2, I'⟩)
      · have c1 : ¬ low ≤ qh + 1 := of_decide_eq_false e
        have et : tstep acc (low, high) = acc ++ [(low, high)] := by unfold tstep; rw [hq]; simp [c1]
        refine ax_cons (ax1_expr ?_ (by intro _ e; unfold interactive; rw [e]; rfl))
        refine aw_meth (aw_local e1 ⟨.builtin "list.append", _, keeps1_builtin, meth_list hH F.slot_list_append rfl, aws_cons (aw_tup (aws_cons (aw_local rfl (aws_cons (aw_local rfl (aws_nil ⟨by simp, aws_nil ?_⟩))))))⟩)
        refine fn_append hH (by simp; (first | lia | omega)) (ax_nil (ax_nil ⟨e1, _, ?_, I'⟩))
        try dsimp only [conU, fnQ, fnM, outQ, nx, asQ, retQ, nexQ, endQ, flV]
        rw [e2, hput_put, et, List.map_append]; rfl
  · rintro st₂ ⟨e1, acc, e2, I⟩
    have el : (l'.map V.pair).length = l'.length := by simp
    rw [el, List.take_length] at I
    refine ax_cons (ax1_ret (aw_freeze (aw_local e1 ⟨fa, _, rfl, by rw [e2]; exact hput_self, ?_⟩)))
    try dsimp only [conU, fnQ, fnM, outQ, nx, asQ, retQ, nexQ, endQ, flV]
    rw [e2, hdel_put hfa]
    exact q acc I.t (fun n => (I.s n).trans (hinS n)) (by have := I.c; (first | lia | omega))
theorem c_test (o : G.Ok) (hT : TopsOk G.tops) (I : Inv G.tops D) (hn : sizeD D + 1 ≤ lim) {x : Int} {spans : List (Int × Int)} {yes no : Int} (x0 : 0 ≤ x) (x3 : x < 3) (hl : spans.length ≤ 3) (hs : ∀ p ∈ spans, 0 ≤ p.1 ∧ p.1 ≤ p.2)
    (hy : nd D.nodes yes = some (.leaf 1)) (hno : nd D.nodes no = some (.leaf 0)) (q : ∀ r D', Grow G.tops D D' 1 → Tells G.tops D'.nodes r (fun a => withinB spans (a x)) → Q (.int r) (DH G D' H)) :
    Fn C 4 (.ref 142) [G.val, .int x, .lst (spans.map V.pair), .int yes, .int no] (DH G D H) Q := by
  have hlen : D.nodes.length ≤ 2 ^ 20 := by unfold sizeD lim at hn; (first | lia | omega)
  have vy : (nd D.nodes yes).isSome = true := by rw [hy]; rfl
  have vn : (nd D.nodes no).isSome = true := by rw [hno]; rfl
  have ly : lv D.nodes yes = 3 := by unfold lv; rw [hy]
  have ln : lv D.nodes no = 3 := by unfold lv; rw [hno]
  obtain ⟨ht0, ht2⟩ := hT.ok x x0 x3
  refine fn_plain def_test rfl (by kernel_rfl) ?_
  conv => arg 3; whnf
  conv => arg 2; arg 1; whnf
  refine ax_cons (ax1_if (at_cmp (aw_call keeps1_builtin (aw_builtin n_min rfl ⟨rfl, aws_cons (aw_meth (aw_local (u := G.val) rfl ⟨.ref 102, _, keep_level, meth_inst pg_level find_level ty_level rfl, aws_cons (aw_local (u := .int yes) rfl (aws_nil (m_level o hlen hT.len (by decide) vy ?_)))⟩))⟩))))
  refine aws_cons (aw_meth (aw_local (u := G.val) rfl ⟨.ref 102, _, keep_level, meth_inst pg_level find_level ty_level rfl, aws_cons (aw_local (u := .int no) rfl (aws_nil (m_level o hlen hT.len (by decide) vn ?_)))⟩))
  rw [ly, ln]
  refine aws_nil (fn_min2 (aw_local (u := .int x) rfl ⟨_, cmp_le, fun e => ?_, fun e => ax_nil ?_⟩))
  · have := of_decide_eq_true e; simp at this; (first | lia | omega)
  refine ax_cons (ax1_assign (aw_sub (aw_tops (aw_local (u := G.val) rfl ⟨rfl, aw_local (u := .int x) rfl ⟨_, sub_tops hT.len x0 x3, aas_local ?_⟩⟩)) (by decide)))
  refine ax_cons (ax1_assign (aw_listH (aws_nil ⟨by simp, fun pa hpa => aas_local ?_⟩)))
  dsimp only at hpa
  refine ax_cons (ax1_assign (aw_int (aas_local ?_)))
  refine ax_cons (ax1_for (awI_lst (aw_call keep_tidy (aw_global g_tidy ⟨rfl, aws_cons (aw_local (u := .lst (spans.map V.pair)) rfl (aws_nil ((c_tidy hl (fun p hp => (hs p hp).2) fun fs tf sf lf => ?_).le (by decide))))⟩))))
  have hfs0 : ∀ r ∈ fs, 0 ≤ r.1 := by
    intro r hr
    -- the low end of a span of fs lies in some given span
    have hrr : r.1 ≤ r.2 := by
      have : ∀ {l : List (Int × Int)}, Tdy l → ∀ q ∈ l, q.1 ≤ q.2 := by
        intro l
        induction l with
        | nil => intro _ q hq; cases hq
        | cons p s ih =>
          intro t q hq
          obtain ⟨a, b, c⟩ := tdy_lows t
          rcases List.mem_cons.mp hq with rfl | hq
          · exact a
          · exact ih c q hq
      exact this tf r hr
    obtain ⟨p, hp, p1, p2⟩ := (sf r.1).mp ⟨r, hr, Int.le_refl _, hrr⟩
    have := (hs p hp).1; (first | lia | omega)
  refine ⟨_, rfl, .inl ⟨_, _, _, rfl⟩, fun i st => A7 (st.m "diagrams" = some G.val) (st.m "variable" = some (.int x)) (st.m "yes" = some (.int yes)) (st.m "no" = some (.int no)) (st.m "top" = some (.int (topOf G.tops x))) (st.m "parts" = some (.raw (.ref pa))) (∃ at' ps, A3 (st.m "at" = some (.int at')) (st.H = hput (DH G D H) pa (.list (ps.map V.pair))) (TsI fs (topOf G.tops x) yes no i at' ps)), ⟨rfl, rfl, rfl, rfl, rfl, rfl, 0, [], rfl, rfl, TsI.start hfs0 ht0⟩, ?_, ?_⟩
  · rintro i u st₂ hi ⟨e1, e2, e3, e4, e5, e6, at', ps, e7, e8, I8⟩
    obtain ⟨⟨low, high⟩, hc, rfl⟩ := get_map hi
    have hlt := (List.getElem?_eq_some_iff.mp hc).1
    have hpl := I8.c
    have hH : st₂.H pa = some (.list (ps.map V.pair)) := by rw [e8]; exact hput_self
    refine aas_tup (us := [.int low, .int high]) (aas_local (aas_local ?_)) rfl
    refine ax_cons (ax1_if (at_cmp (aw_local rfl (aw_local e5 ⟨_, cmp_le, fun e => ?_, fun e => ax_nil ?_⟩))))
    · have c1 : low ≤ topOf G.tops x := of_decide_eq_true e
      have I9 := I8.add tf hc c1
      have rest : ∀ (st₃ : St) (ps₂ : List (Int × Int)), st₃.m "diagrams" = some G.val → st₃.m "variable" = some (.int x) → st₃.m "yes" = some (.int yes) → st₃.m "no" = some (.int no) → st₃.m "top" = some (.int (topOf G.tops x)) → st₃.m "parts" = some (.raw (.ref pa)) → st₃.m "high" = some (.int high) →
          st₃.H = hput (DH G D H) pa (.list (ps₂.map V.pair)) → ps₂.length ≤ 100 → ps₂ ++ [(min high (topOf G.tops x), yes)] = tsAdd ps at' (topOf G.tops x) yes no low high → True := fun _ _ _ _ _ _ _ _ _ _ _ _ => trivial
      refine ax_cons (ax1_if (at_cmp (aw_local rfl (aw_local e7 ⟨_, cmp_gt, fun e => ?_, fun e => ax_nil ?_⟩))))
      · have c2 : low > at' := of_decide_eq_true e
        refine ax_cons (ax1_expr ?_ (by intro _ e; unfold interactive; rw [e]; rfl))
        refine aw_meth (aw_local e6 ⟨.builtin "list.append", _, keeps1_builtin, meth_list hH F.slot_list_append rfl, aws_cons (aw_tup (aws_cons (aw_BinOp (aw_local rfl (aw_int ⟨_, bin_sub, aws_cons (aw_local e4 (aws_nil ⟨by simp, aws_nil ?_⟩))⟩)))))⟩)
        refine fn_append hH (by simp; (first | lia | omega)) (ax_nil ?_)
        have hH2 : (hput st₂.H pa (.list (ps.map V.pair ++ [.tup [.int (low - 1), .int no]]))) pa = some (.list ((ps ++ [(low - 1, no)]).map V.pair)) := by rw [hput_self, List.map_append]; rfl
        refine ax_cons (ax1_expr ?_ (by intro _ e; unfold interactive; rw [e]; rfl))
        refine aw_meth (aw_local e6 ⟨.builtin "list.append", _, keeps1_builtin, meth_list hH2 F.slot_list_append rfl, aws_cons (aw_tup (aws_cons (aw_call keeps1_builtin (aw_builtin n_min rfl ⟨rfl, aws_cons (aw_local rfl (aws_cons (aw_local e5 (aws_nil (fn_min2 ?_)))))⟩))))⟩)
        refine aws_cons (aw_local e3 (aws_nil ⟨by simp, aws_nil ?_⟩))
        refine fn_append hH2 (by simp; (first | lia | omega)) ?_
        refine ax_cons (ax1_assign (aw_BinOp (aw_local rfl (aw_int ⟨_, bin_add, aas_local ?_⟩))))
        refine ax_nil (ax_nil ⟨e1, e2, e3, e4, e5, e6, _, _, rfl, ?_, I9⟩)
        try dsimp only [conU, fnQ, fnM, outQ, nx, asQ, retQ, nexQ, endQ, flV]
        rw [e8, hput_put, hput_put]
        unfold tsAdd
        rw [if_pos c2]
        have : (if topOf G.tops x < high then topOf G.tops x else high) = min high (topOf G.tops x) := by split <;> (first | lia | omega)
        rw [this]; simp [V.pair]
      · have c2 : ¬ low > at' := of_decide_eq_false e
        refine ax_cons (ax1_expr ?_ (by intro _ e; unfold interactive; rw [e]; rfl))
        refine aw_meth (aw_local e6 ⟨.builtin "list.append", _, keeps1_builtin, meth_list hH F.slot_list_append rfl, aws_cons (aw_tup (aws_cons (aw_call keeps1_builtin (aw_builtin n_min rfl ⟨rfl, aws_cons (aw_local rfl (aws_cons (aw_local e5 (aws_nil (fn_min2 ?_)))))⟩))))⟩)
        refine aws_cons (aw_local e3 (aws_nil ⟨by simp, aws_nil ?_⟩))
        refine fn_append hH (by simp; (first | lia | omega)) ?_
        refine ax_cons (ax1_assign (aw_BinOp (aw_local rfl (aw_int ⟨_, bin_add, aas_local ?_⟩))))
        refine ax_nil (ax_nil ⟨e1, e2, e3, e4, e5, e6, _, _, rfl, ?_, I9⟩)
        try dsimp only [conU, fnQ, fnM, outQ, nx, asQ, retQ, nexQ, endQ, flV]
        rw [e8, hput_put]
        unfold tsAdd
        rw [if_neg c2, List.map_append]
        have : (if topOf G.tops x < high then topOf G.tops x else high) = min high (topOf G.tops x) := by split <;> (first | lia | omega)
        rw [this]; rfl
    · have c1 : ¬ low ≤ topOf G.tops x := of_decide_eq_false e
      exact ax_nil ⟨e1, e2, e3, e4, e5, e6, at', ps, e7, e8, I8.skip hc c1⟩
  · rintro st₂ ⟨e1, e2, e3, e4, e5, e6, at', ps, e7, e8, I8⟩
    have el : (fs.map V.pair).length = fs.length := by simp
    rw [el] at I8
    obtain ⟨R, P, Y⟩ := I8.done ht0
    have hpl := I8.c
    have hH : st₂.H pa = some (.list (ps.map V.pair)) := by rw [e8]; exact hput_self
    have fin : ∀ (st₃ : St), st₃.m "diagrams" = some G.val → st₃.m "variable" = some (.int x) → st₃.m "parts" = some (.raw (.ref pa)) → st₃.H = hput (DH G D H) pa (.list ((tsEnd ps at' (topOf G.tops x) no).map V.pair)) →
        Fn C 3 (.ref 88) [G.val, .int x, .lst ((tsEnd ps at' (topOf G.tops x) no).map V.pair)] (hdel st₃.H pa) Q := by
      intro st₃ f1 f2 f3 f4
      rw [f4, hdel_put hpa]
      refine c_make o hT.len I (by unfold sizeD lim at hn; (first | lia | omega)) x0 x3 R (by intro e; rw [e] at R; unfold Rise at R; (first | lia | omega)) (by unfold tsEnd; split <;> (try simp) <;> (first | lia | omega)) (fun p hp => ?_) (fun r D' M => q r D' M.grow ⟨M.v, fun a ha => ?_⟩)
      · rcases Y p hp with e | e <;> rw [e]
        · exact ⟨vy, by (first | lia | omega)⟩
        · exact ⟨vn, by (first | lia | omega)⟩
      · obtain ⟨a1, a2⟩ := ha x x0 x3
        refine M.ev a _ _ (P (a x) a1 a2) ?_
        have ew : withinB fs (a x) = withinB spans (a x) := withinB_congr (sf _)
        rw [ew]
        cases withinB spans (a x) with
        | true => exact .leaf (M.grow.pre.nd hy)
        | false => exact .leaf (M.grow.pre.nd hno)
    refine ax_cons (ax1_if (at_cmp (aw_local e7 (aw_local e5 ⟨_, cmp_le, fun e => ?_, fun e => ax_nil ?_⟩))))
    · have c : at' ≤ topOf G.tops x := of_decide_eq_true e
      refine ax_cons (ax1_expr ?_ (by intro _ e; unfold interactive; rw [e]; rfl))
      refine aw_meth (aw_local e6 ⟨.builtin "list.append", _, keeps1_builtin, meth_list hH F.slot_list_append rfl, aws_cons (aw_tup (aws_cons (aw_local e5 (aws_cons (aw_local e4 (aws_nil ⟨by simp, aws_nil ?_⟩))))))⟩)
      refine fn_append hH (by simp; (first | lia | omega)) (ax_nil ?_)
      refine ax_cons (ax1_ret (aw_meth (aw_local e1 ⟨.ref 88, _, keep_make, meth_inst pg_make find_make ty_make rfl, aws_cons (aw_local e2 (aws_cons (aw_freeze (aw_local e6 ⟨pa, _, rfl, hput_self, aws_nil ?_⟩))))⟩)))
      have ee : ps.map V.pair ++ [.tup [.int (topOf G.tops x), .int no]] = (tsEnd ps at' (topOf G.tops x) no).map V.pair := by unfold tsEnd; rw [if_pos c, List.map_append]; rfl
      rw [ee]
      exact fin ⟨st₂.m, hput st₂.H pa (.list ((tsEnd ps at' (topOf G.tops x) no).map V.pair))⟩ e1 e2 e6 (by dsimp only; rw [e8, hput_put])
    · have c : ¬ at' ≤ topOf G.tops x := of_decide_eq_false e
      have ee : tsEnd ps at' (topOf G.tops x) no = ps := by unfold tsEnd; rw [if_neg c]
      refine ax_cons (ax1_ret (aw_meth (aw_local e1 ⟨.ref 88, _, keep_make, meth_inst pg_make find_make ty_make rfl, aws_cons (aw_local e2 (aws_cons (aw_freeze (aw_local e6 ⟨pa, _, rfl, hH, aws_nil ?_⟩))))⟩)))
      rw [← ee]
      exact fin ⟨st₂.m, st₂.H⟩ e1 e2 e6 (by rw [ee]; exact e8)
end
end Mine
end

section
open PySem PySem.W PyProof.Rows PySem.Calls
set_option Elab.async false
set_option maxRecDepth 100000
set_option linter.unusedVariables false
namespace Mine
theorem div1 {x : Int} : Builtin.divisionGoesByPylong x 1 = false := by
  have e : Nat.log2 1 = 0 := by decide
  unfold Builtin.divisionGoesByPylong; simp [e]
theorem small0 {a b : Int} (h0 : -1000 ≤ a) (h1 : a ≤ 1000) (h2 : -1000 ≤ b) (h3 : b ≤ 1000) : Builtin.Range.small a b 1 = true := by
  unfold Builtin.Range.small
  rw [rsize_one]
  simp only [Builtin.Range.rangeFitsLong]
  simp
  (first | lia | omega)
section
variable {C : Cx} {f : Fm} {st : St} {G : Gd} {D : Dg} {H : Addr → Option AO} {d : Nat} {Q : V → (Addr → Option AO) → Prop}
def intsOf : List Expr → Option (List Int)
  | [] => some []
  | .Constant (.int i) _ _ :: es => (intsOf es).map (i :: ·)
  | _ => none
theorem aws_ints : ∀ {es : List Expr} {is : List Int} {st : St} {Q : List V → St → Prop}, intsOf es = some is → Q (is.map .int) st → aws C f es Q st
  | [], _, _, _, h, q => by cases h; exact aws_nil q
  | e :: es, is, st, Q, h, q => by
    unfold intsOf at h
    split at h
    · rename_i e'; cases e'
    · rename_i i n p es' e'
      cases e'
      rw [Option.map_eq_some_iff] at h
      obtain ⟨js, h, rfl⟩ := h
      exact aws_cons (aw_int (aws_ints h q))
    · cases h
/-- for .. in range(n) -/
theorem awI_range1 {np pos : Pos} {e : Expr} {Q : List V → Bool → St → Prop} (h : aw C f e (fun u st₁ => ∃ n : Int, u = .int n ∧ -1000 ≤ n ∧ n ≤ 1000 ∧ Q (rangeV 0 1 n.toNat) true st₁) st) (hk : f.sc.names.lookup (Str.ofString "range") = some .globalImplicit := by rfl)
    (he : ∀ env, starEach [e] env = plainArgs [e] env := by intro _; rfl) (he' : ∀ env, starEach (e :: []) env = (false, eval e env) :: starEach [] env := by intro _; rfl) : awI C f (.Call (.Name "range" np) [e] [] pos) Q st := by
  refine awI_range n_range (aws_cons (h.mono fun u st₁ ⟨n, e, h1, h2, q⟩ => aws_nil ⟨0, n, 1, n.toNat, .inl ⟨by rw [e], rfl, rfl⟩, by decide, div1, small0 (by decide) (by decide) h1 h2, by rw [rsize_one]; simp, q⟩) he') hk he
theorem range_get {n i : Nat} {u : V} (h : (rangeV 0 1 n)[i]? = some u) : u = .int (i : Nat) ∧ i < n := by
  unfold rangeV at h
  obtain ⟨j, hj, rfl⟩ := get_map h
  obtain ⟨hlt, rfl⟩ := List.getElem?_eq_some_iff.mp hj
  simp at hlt
  refine ⟨by simp, hlt⟩
theorem range_len {n : Nat} : (rangeV 0 1 n).length = n := by simp [rangeV]
theorem get_ints {l : List Int} {i : Nat} (h : i < l.length) : ∃ x, l[i]? = some x ∧ (l.map V.int)[i]? = some (.int x) := ⟨l[i], by simp [h], by simp [h]⟩
theorem c_drawn {script : List Int} (hn : script.length ≤ 63) (q : ∀ told : List Int, told.length = 27 → Q (.lst (told.map .int)) H) : Fn C 2 (.ref 175) [.lst (script.map .int)] H Q := by
  refine fn_plain def_law_drawn rfl (by kernel_rfl) ?_
  conv => arg 3; whnf
  conv => arg 2; arg 1; whnf
  refine ax_cons ?_
  refine ax1_assign ?h ?hs ?hw ?ha
  case hs => intro env; rfl
  case hw => intro env; rfl
  case ha => intro env; rfl
  refine aw_listH ?_
  refine aws_ints (is := [1, 1, 0, 1, 10, 5, 17, 1, 1, 0, 0, 2, 1, 0, 0, 4, 1, 1, 0, 0, 1, 0, 0, 3, 6, 3, 0]) ?h1 ?h2
  case h1 => kernel_rfl
  refine ⟨by decide, fun ta hta => ?_⟩
  refine aas_local ?_
  dsimp only at hta
  refine ax_cons (ax1_for (awI_range1 (aw_call keeps1_builtin (aw_builtin n_min rfl ⟨rfl, aws_cons (aw_call keeps1_builtin (aw_builtin n_len rfl ⟨rfl, aws_cons (aw_local (u := .lst (script.map .int)) rfl (aws_nil (fn_len_lst (by simp; (first | lia | omega)) (aws_cons ?_))))⟩))⟩))))
  refine aw_call keeps1_builtin (aw_builtin n_len rfl ⟨rfl, aws_cons (aw_local rfl (aws_nil (fn_len_H hput_self (by decide) (aws_nil (fn_min2 ?_)))))⟩)
  refine ⟨_, rfl, by split <;> simp <;> (first | lia | omega), by split <;> simp <;> (first | lia | omega), .inr ⟨⟨_, _, rfl⟩, rfl⟩, fun i st => A3 (st.m "script" = some (.lst (script.map .int))) (st.m "told" = some (.raw (.ref ta))) (∃ told : List Int, told.length = 27 ∧ st.H = hput H ta (.list (told.map .int))), ⟨rfl, rfl, [1, 1, 0, 1, 10, 5, 17, 1, 1, 0, 0, 2, 1, 0, 0, 4, 1, 1, 0, 0, 1, 0, 0, 3, 6, 3, 0], rfl, rfl⟩, ?_, ?_⟩
  · rintro i u st₂ hi ⟨e1, e2, told, e3, e4⟩
    obtain ⟨rfl, hlt⟩ := range_get hi
    have hi1 : i < script.length ∧ i < 27 := by
      revert hlt
      split <;> simp at * <;> (first | lia | omega)
    have hH : st₂.H ta = some (.list (told.map .int)) := by rw [e4]; exact hput_self
    obtain ⟨y, hy1, hy2⟩ := get_ints hi1.1
    obtain ⟨z, hz1, hz2⟩ := get_ints (l := told) (i := i) (by (first | lia | omega))
    refine aas_local ?_
    refine ax_cons (ax1_assign (aw_BinOp (aw_sub (aw_local e2 (aw_local rfl ⟨_, sub_H hH (by (first | lia | omega)) (by (first | lia | omega)) (by rw [Int.toNat_natCast]; exact hz2), aw_sub (aw_local e1 (aw_local rfl ⟨_, sub_lst (by (first | lia | omega)) (by (first | lia | omega)) (by rw [Int.toNat_natCast]; exact hy2), _, bin_add, ?_⟩)) (by decide)⟩)) (by decide))))
    refine aas_sub (aw_local e2 (aw_local rfl ⟨ta, _, _, rfl, hH, set_list (by (first | lia | omega)) (by (first | lia | omega)) (by simp; (first | lia | omega)), ax_nil ⟨e1, e2, told.set i (z + y), by simp [e3], ?_⟩⟩)) (by decide)
    try dsimp only [conU, fnQ, fnM, outQ, nx, asQ, retQ, nexQ, endQ, flV]
    rw [e4, hput_put, List.map_set]; simp
  · rintro st₂ ⟨e1, e2, told, e3, e4⟩
    refine ax_cons (ax1_ret (aw_freeze (aw_local e2 ⟨ta, _, rfl, by rw [e4]; exact hput_self, ?_⟩)))
    try dsimp only [conU, fnQ, fnM, outQ, nx, asQ, retQ, nexQ, endQ, flV]
    rw [e4, hdel_put hta]
    exact q told e3
theorem c_spans {n top : Int} (h0 : 0 ≤ top) (h2 : top ≤ 2) (q : ∀ spans : List (Int × Int), spans.length ≤ 3 → (∀ p ∈ spans, 0 ≤ p.1 ∧ p.1 ≤ p.2) → Q (.lst (spans.map V.pair)) H) : Fn C 2 (.ref 182) [.int n, .int top] H Q := by
  refine fn_plain def_law_spans rfl (by kernel_rfl) ?_
  conv => arg 3; whnf
  conv => arg 2; arg 1; whnf
  refine ax_cons (ax1_assign (aw_listH (aws_nil ⟨by simp, fun sa hsa => aas_local ?_⟩)))
  dsimp only at hsa
  refine ax_cons (ax1_assign (aw_BinOp (aw_local rfl (aw_int ⟨_, bin_div (by decide), aas_local ?_⟩))))
  have m4 : ∀ x : Int, 0 ≤ x.fmod 4 ∧ x.fmod 4 < 4 := fun x => ⟨Int.fmod_nonneg_of_pos _ (by decide), Int.fmod_lt_of_pos _ (by decide)⟩
  refine ax_cons (ax1_for (awI_range1 (aw_BinOp (aw_local rfl (aw_int ⟨_, bin_mod (by decide), _, rfl, by have := m4 n; (first | lia | omega), by have := m4 n; (first | lia | omega), .inr ⟨⟨_, _, rfl⟩, rfl⟩,
    fun i st => A3 (st.m "top" = some (.int top)) (st.m "spans" = some (.raw (.ref sa))) (∃ (rest : Int) (spans : List (Int × Int)), A4 (st.m "rest" = some (.int rest)) (spans.length = i) ((∀ p ∈ spans, 0 ≤ p.1 ∧ p.1 ≤ p.2)) (st.H = hput H sa (.list (spans.map V.pair)))), ⟨rfl, rfl, _, [], rfl, rfl, (fun p hp => by cases hp), rfl⟩, ?_, ?_⟩)))))
  · rintro i u st₂ hi ⟨e1, e2, rest, spans, e3, e4, e5, e6⟩
    obtain ⟨rfl, hlt⟩ := range_get hi
    have hi4 : i < 4 := by have := m4 n; (first | lia | omega)
    have hH : st₂.H sa = some (.list (spans.map V.pair)) := by rw [e6]; exact hput_self
    have t2 : top + 2 ≠ 0 := by (first | lia | omega)
    have t1 : top + 1 ≠ 0 := by (first | lia | omega)
    refine aas_local ?_
    refine ax_cons (ax1_assign (aw_BinOp (aw_local e3 (aw_BinOp (aw_local e1 (aw_int ⟨_, bin_add, _, bin_mod t2, aas_local ?_⟩))))))
    refine ax_cons (ax1_assign (aw_BinOp (aw_local e3 (aw_BinOp (aw_local e1 (aw_int ⟨_, bin_add, _, bin_div t2, aas_local ?_⟩))))))
    refine ax_cons (ax1_expr ?_ (by intro _ e; unfold interactive; rw [e]; rfl))
    refine aw_meth (aw_local e2 ⟨.builtin "list.append", _, keeps1_builtin, meth_list hH F.slot_list_append rfl, aws_cons (aw_tup (aws_cons (aw_local rfl (aws_cons ?_))))⟩)
    refine aw_BinOp (aw_local rfl (aw_BinOp (aw_local rfl (aw_BinOp (aw_local e1 (aw_int ⟨_, bin_add, _, bin_mod t1, _, bin_add, aws_nil ⟨by simp, aws_nil ?_⟩⟩))))))
    refine fn_append hH (by simp; (first | lia | omega)) ?_
    refine ax_cons (ax1_assign (aw_BinOp (aw_local rfl (aw_BinOp (aw_local e1 (aw_int ⟨_, bin_add, _, bin_div t1, aas_local ?_⟩))))))
    refine ax_nil ⟨e1, e2, _, spans ++ [(rest.fmod (top + 2), rest.fmod (top + 2) + (rest.fdiv (top + 2)).fmod (top + 1))], rfl, by simp [e4], fun p hp => ?_, ?_⟩
    · rcases List.mem_append.mp hp with hp | hp
      · exact e5 p hp
      · simp at hp; subst hp
        have a1 := Int.fmod_nonneg_of_pos rest (b := top + 2) (by (first | lia | omega))
        have a2 := Int.fmod_nonneg_of_pos (rest.fdiv (top + 2)) (b := top + 1) (by (first | lia | omega))
        dsimp only; (first | lia | omega)
    · dsimp only [conU, fnQ, fnM, outQ, nx, asQ, retQ, nexQ, endQ, flV]
      rw [e6, hput_put]; simp [V.pair]
  · rintro st₂ ⟨e1, e2, rest, spans, e3, e4, e5, e6⟩
    rw [range_len] at e4
    refine ax_cons (ax1_ret (aw_freeze (aw_local e2 ⟨sa, _, rfl, by rw [e6]; exact hput_self, ?_⟩)))
    try dsimp only [conU, fnQ, fnM, outQ, nx, asQ, retQ, nexQ, endQ, flV]
    rw [e6, hdel_put hsa]
    exact q spans (by have := m4 n; (first | lia | omega)) e5
theorem c_within {spans : List (Int × Int)} {n : Int} (q : Q (.bool (withinB spans n)) H) : Fn C 2 (.ref 194) [.lst (spans.map V.pair), .int n] H Q := by
  refine fn_plain def_law_within rfl (by kernel_rfl) ?_
  conv => arg 3; whnf
  conv => arg 2; arg 1; whnf
  refine ax_cons (ax1_for (awI_lst (aw_local rfl ⟨_, rfl, .inl ⟨_, _, _, rfl⟩, fun i st => A3 (st.m "n" = some (.int n)) (st.H = H) (withinB spans n = withinB (spans.drop i) n), ⟨rfl, rfl, rfl⟩, ?_, ?_⟩)))
  · rintro i u st₂ hi ⟨e1, e2, e3⟩
    obtain ⟨⟨low, high⟩, hc, rfl⟩ := get_map hi
    have hlt := (List.getElem?_eq_some_iff.mp hc).1
    have hdrop : spans.drop i = (low, high) :: spans.drop (i + 1) := by
      have := List.drop_eq_getElem_cons hlt
      rw [(List.getElem?_eq_some_iff.mp hc).2] at this; exact this
    rw [hdrop] at e3
    have e4 : withinB ((low, high) :: spans.drop (i + 1)) n = ((decide (low ≤ n) && decide (n ≤ high)) || withinB (spans.drop (i + 1)) n) := rfl
    rw [e4] at e3
    refine aas_tup (us := [.int low, .int high]) (aas_local (aas_local ?_)) rfl
    refine ax_cons (ax1_if (at_cmp2 (aw_local rfl (aw_local e1 ⟨_, cmp_le, fun e => ⟨fun e => (by cases e), fun _ => ax_nil (ax_nil ⟨e1, e2, by rw [e3, e]; rfl⟩)⟩, fun e => ?_⟩))))
    refine aw_local rfl ⟨_, cmp_le, fun e' => ?_, fun e' => ax_nil (ax_nil ⟨e1, e2, by rw [e3, e']; simp⟩)⟩
    refine ax_cons (ax1_ret (aw_bool ?_))
    rw [e, e'] at e3
    try dsimp only [conU, fnQ, fnM, outQ, nx, asQ, retQ, nexQ, endQ, flV]
    rw [e2]
    rw [e3] at q; exact q
  · rintro st₂ ⟨e1, e2, e3⟩
    rw [show (spans.map V.pair).length = spans.length by simp, List.drop_length] at e3
    refine ax_cons (ax1_ret (aw_bool ?_))
    try dsimp only [conU, fnQ, fnM, outQ, nx, asQ, retQ, nexQ, endQ, flV]
    rw [e2]
    rw [e3] at q; exact q
end
end Mine
end

section
set_option Elab.async false
set_option linter.unusedVariables false
namespace Mine
inductive Step where
  | test (k : Int) (s : List (Int × Int))
  | both (a b c : Int) | either (a b c : Int) | negate (a b c : Int) | choose (a b c : Int)
def Step.toV : Step → V
  | .test k s => .tup [.str "test", .int k, .lst (s.map V.pair), .int 0]
  | .both a b c => .tup [.str "both", .int a, .int b, .int c]
  | .either a b c => .tup [.str "either", .int a, .int b, .int c]
  | .negate a b c => .tup [.str "negate", .int a, .int b, .int c]
  | .choose a b c => .tup [.str "choose", .int a, .int b, .int c]
def inR (n : Nat) (a : Int) : Prop := 0 ≤ a ∧ a < n
def StepOk (i : Nat) : Step → Prop
  | .test k s => 0 ≤ k ∧ k < 3 ∧ s.length ≤ 3 ∧ ∀ p ∈ s, 0 ≤ p.1 ∧ p.1 ≤ p.2
  | .both a b c => inR i a ∧ inR i b ∧ inR i c
  | .either a b c => inR i a ∧ inR i b ∧ inR i c
  | .negate a b c => inR i a ∧ inR i b ∧ inR i c
  | .choose a b c => inR i a ∧ inR i b ∧ inR i c
def StepsOk (l : List Step) : Prop := ∀ i s, l[i]? = some s → StepOk i s
theorem StepsOk.snoc {l : List Step} {s : Step} (h : StepsOk l) (hs : StepOk l.length s) : StepsOk (l ++ [s]) := fun i s' e => by
  by_cases q : i < l.length
  · rw [List.getElem?_append_left q] at e; exact h i s' e
  · rw [List.getElem?_append_right (by (first | lia | omega))] at e
    have hi : i - l.length = 0 := by have := (List.getElem?_eq_some_iff.mp e).1; simp at this; (first | lia | omega)
    rw [hi] at e
    simp only [List.getElem?_cons_zero, Option.some.injEq] at e
    subst e
    have : i = l.length := by
      by_cases z : i = l.length
      · exact z
      · (first | lia | omega)
    rw [this]; exact hs
def sget (seen : List Bool) (a : Int) : Bool := seen.getD a.toNat false
def stepB (seen : List Bool) (a : Int → Int) : Step → Bool
  | .test k s => withinB s (a k)
  | .both x y _ => sget seen x && sget seen y
  | .either x y _ => sget seen x || sget seen y
  | .negate x _ _ => !(sget seen x)
  | .choose x y z => if sget seen x then sget seen y else sget seen z
def seenL (a : Int → Int) : List Step → List Bool → List Bool
  | [], seen => seen
  | s :: r, seen => seenL a r (seen ++ [stepB seen a s])
theorem seenL_snoc {a : Int → Int} {s : Step} : ∀ {l : List Step} {seen : List Bool}, seenL a (l ++ [s]) seen = seenL a l seen ++ [stepB (seenL a l seen) a s]
  | [], seen => rfl
  | t :: l, seen => by rw [List.cons_append]; unfold seenL; exact seenL_snoc
theorem seenL_len {a : Int → Int} : ∀ {l : List Step} {seen : List Bool}, (seenL a l seen).length = seen.length + l.length
  | [], seen => rfl
  | t :: l, seen => by unfold seenL; rw [seenL_len]; simp; (first | lia | omega)
def tried (steps : List Step) (a : Int → Int) : Bool := ((seenL a steps []).getLast?).getD false
theorem sget_get {seen : List Bool} {a : Int} (h : inR seen.length a) : seen[a.toNat]? = some (sget seen a) := by
  have : a.toNat < seen.length := by unfold inR at h; (first | lia | omega)
  unfold sget; simp [this]
end Mine
end

section
open PySem PySem.W PyProof.Rows PySem.Calls
set_option Elab.async false
set_option maxRecDepth 100000
set_option linter.unusedVariables false
namespace Mine
section
variable {C : Cx} {f : Fm} {st : St} {G : Gd} {D : Dg} {H : Addr → Option AO} {d : Nat} {Q : V → (Addr → Option AO) → Prop}
theorem tops_get' {T : List Int} (ht : T.length = 3) {x : Int} (h0 : 0 ≤ x) (h3 : x < 3) : (T.map V.int)[x.toNat]? = some (.int (topOf T x)) := by
  have : x.toNat < T.length := by (first | lia | omega)
  unfold topOf
  simp [this]
theorem topsV (hT : TopsOk G.tops) {x : Int} (x0 : 0 ≤ x) (x3 : x < 3) : (G.tops.map V.int)[x.toNat]? = some (.int (topOf G.tops x)) := tops_get hT.len x0 x3
/-- for .. in range(a, b, c) -/
theorem range_step {np pos : Pos} {e1 e2 e3 : Expr} {Q : List V → Bool → St → Prop} {a b c : Int} {n : Nat} (hc : c ≠ 0) (hd : Builtin.divisionGoesByPylong (b - a) c = false) (hs : Builtin.Range.small a b c = true) (hn : Builtin.Range.rangeSize a b c = (n : Nat))
    (h : aws C f [e1, e2, e3] (fun us st₁ => us = [.int a, .int b, .int c] ∧ Q (rangeV a c n) true st₁) st) (hk : f.sc.names.lookup (Str.ofString "range") = some .globalImplicit := by rfl)
    (he : ∀ env, starEach [e1, e2, e3] env = plainArgs [e1, e2, e3] env := by intro _; rfl) : awI C f (.Call (.Name "range" np) [e1, e2, e3] [] pos) Q st :=
  awI_range n_range (fun p => (h p).mono fun us st₁ ⟨e, q⟩ => ⟨a, b, c, n, .inr (.inr e), hc, hd, hs, hn, q⟩) hk he
theorem take4 {l : List Int} {n : Nat} (h : n + 4 ≤ l.length) : ∃ a b c d, (l.drop n).take 4 = [a, b, c, d] := by
  have h1 : ((l.drop n).take 4).length = 4 := by simp; (first | lia | omega)
  match (l.drop n).take 4, h1 with
  | [a, b, c, d], _ => exact ⟨a, b, c, d, rfl⟩
theorem step_get {n i : Nat} {u : V} {a c : Int} (h : (rangeV a c n)[i]? = some u) : u = .int (a + (i : Nat) * c) ∧ i < n := by
  unfold rangeV at h
  obtain ⟨j, hj, rfl⟩ := get_map h
  obtain ⟨hlt, rfl⟩ := List.getElem?_eq_some_iff.mp hj
  simp at hlt
  exact ⟨by simp, hlt⟩
theorem step_len {n : Nat} {a c : Int} : (rangeV a c n).length = n := by simp [rangeV]
theorem back_in {n : Nat} (h : 0 < n) (x : Int) : inR n ((n : Int) - 1 - x.fmod n) := by
  have h1 := Int.fmod_nonneg_of_pos x (b := n) (by (first | lia | omega))
  have h2 := Int.fmod_lt_of_pos x (b := n) (by (first | lia | omega))
  unfold inR; (first | lia | omega)
theorem c_steps {tops told : List Int} (hT : TopsOk tops) (hl : told.length = 27) (q : ∀ steps : List Step, StepsOk steps → steps.length = 8 → Q (.lst (steps.map Step.toV)) H) : Fn C 3 (.ref 187) [.lst (told.map .int), V.ints tops] H Q := by
  refine fn_cell def_law_steps rfl (by kernel_rfl) (fun n => by kernel_rfl) ?_
  conv => arg 3; whnf
  conv => arg 2; arg 1; whnf
  refine ax_cons (ax1_comp true (awI_range1 (aw_int ⟨3, rfl, by decide, by decide, .inr ⟨⟨_, _, rfl⟩, rfl⟩, fun i ys st => A4 (st.m "told" = some (.lst (told.map .int))) (st.m "tops" = some (V.ints tops)) (st.H = H) (∃ steps : List Step, A3 (StepsOk steps) (steps.length = i) (ys = steps.map Step.toV)), ⟨rfl, rfl, rfl, [], (fun i s e => by simp at e), rfl, rfl⟩, ?_, ?_⟩)) (by rfl) (by simp) ?_)
  · rintro i u ys st₂ hi ⟨e1, e2, e3, steps, e4, e5, e6⟩
    obtain ⟨rfl, hlt⟩ := range_get hi
    have hi3 : i < 3 := by simpa using hlt
    refine aas_local ⟨by rw [e6]; simp; (first | lia | omega), ?_⟩
    obtain ⟨x, -, hx⟩ := get_ints (l := told) (i := 4 + i) (by (first | lia | omega))
    refine aw_tup (aws_cons (aw_str (aws_cons (aw_local rfl (aws_cons ?_)))))
    refine aw_call keep_law_spans (aw_global g_law_spans ⟨rfl, aws_cons ?_⟩)
    have e4i : ((4 : Int) + (i : Nat)).toNat = 4 + i := by (first | lia | omega)
    refine aw_sub (aw_cell e1 (aw_BinOp (aw_int (aw_local rfl ⟨_, bin_add, _, sub_lst (by (first | lia | omega)) (by (first | lia | omega)) (by rw [e4i]; exact hx), ?_⟩)))) (by decide)
    have ht := hT.ok (i : Nat) (by (first | lia | omega)) (by (first | lia | omega))
    refine aws_cons (aw_sub (aw_cell e2 (aw_local rfl ⟨_, sub_tup0 (by (first | lia | omega)) (by (first | lia | omega)) (tops_get' (x := (i : Nat)) hT.len (by (first | lia | omega)) (by (first | lia | omega))), aws_nil ?_⟩)) (by decide))
    try dsimp only [conU, fnQ, fnM, outQ, nx, asQ, retQ, nexQ, endQ, flV]
    rw [e3]
    refine (c_spans ht.1 ht.2 fun spans h1 h2 => ?_).le (by decide)
    refine aws_cons (aw_int (aws_nil ⟨by simp, e1, e2, rfl, steps ++ [.test (i : Nat) spans], e4.snoc (s := .test (i : Nat) spans) ⟨by (first | lia | omega), by (first | lia | omega), h1, h2⟩, by simp [e5], by rw [e6, List.map_append]; rfl⟩))
  · rintro ys st₂ ⟨e1, e2, e3, steps, e4, e5, e6⟩
    rw [range_len] at e5
    subst e6
    intro sa hsa
    dsimp only at hsa
    rw [e3] at hsa
    refine aas_local ?_
    try dsimp only [conU, fnQ, fnM, outQ, nx, asQ, retQ, nexQ, endQ, flV]
    rw [e3]
    refine ax_cons (ax1_for (range_step (a := 7) (b := 27) (c := 4) (n := 5) (by decide) (by decide) (by decide) (by decide) (aws_cons (aw_int (aws_cons (aw_call keeps1_builtin (aw_builtin n_len rfl ⟨rfl, aws_cons (aw_cell (u := .lst (told.map .int)) rfl (aws_nil (fn_len_lst (by simp; (first | lia | omega)) (aws_cons (aw_int (aws_nil ⟨by simp [hl], ?_⟩))))))⟩)))))))
    refine ⟨.inr ⟨⟨_, _, rfl⟩, rfl⟩, fun i st => A4 (st.m "told" = some (.lst (told.map .int))) (st.m "tops" = some (V.ints tops)) (st.m "steps" = some (.raw (.ref sa))) (∃ steps : List Step, A3 (StepsOk steps) (steps.length = 3 + i) (st.H = hput H sa (.list (steps.map Step.toV)))), ⟨rfl, rfl, rfl, steps, e4, by rw [e5]; rfl, rfl⟩, ?_, ?_⟩
    · rintro i u st₃ hi ⟨i1, i2, i3, steps, i4, i5, i6⟩
      obtain ⟨rfl, hlt⟩ := step_get hi
      have hH : st₃.H sa = some (.list (steps.map Step.toV)) := by rw [i6]; exact hput_self
      have eat : ((7 : Int) + (i : Nat) * 4).toNat = 7 + i * 4 := by (first | lia | omega)
      obtain ⟨kd, p, q', r, e4'⟩ := take4 (l := told) (n := 7 + i * 4) (by (first | lia | omega))
      have esl : ((told.map V.int).drop ((7 : Int) + (i : Nat) * 4).toNat).take (((7 : Int) + (i : Nat) * 4 + 4).toNat - ((7 : Int) + (i : Nat) * 4).toNat) = [V.int kd, .int p, .int q', .int r] := by
        have e2 : ((7 : Int) + (i : Nat) * 4 + 4).toNat - ((7 : Int) + (i : Nat) * 4).toNat = 4 := by (first | lia | omega)
        rw [e2, eat, ← List.map_drop, ← List.map_take, e4']; rfl
      refine aas_local ?_
      refine ax_cons (ax1_assign (aw_slice (aw_cell i1 (aw_local rfl (aw_BinOp (aw_local rfl (aw_int ⟨_, bin_add, _, _, _, rfl, by simp; (first | lia | omega), rfl, rfl, by (first | lia | omega), by (first | lia | omega), by simp; (first | lia | omega), ?_⟩)))))))
      rw [esl]
      refine aas_tupL (aas_local (aas_local (aas_local (aas_local ?_)))) rfl
      refine ax_cons (ax1_if (at_cmp (aw_BinOp (aw_local rfl (aw_int ⟨_, bin_mod (by decide), aw_int ⟨_, cmp_eq, fun e => ?_, fun e => ?_⟩⟩)))))
      · have p0 := Int.fmod_nonneg_of_pos p (b := 3) (by decide)
        have p3 := Int.fmod_lt_of_pos p (b := 3) (by decide)
        have ht := hT.ok _ p0 p3
        refine ax_cons (ax1_expr ?_ (by intro _ e; unfold interactive; rw [e]; rfl))
        refine aw_meth (aw_local i3 ⟨.builtin "list.append", _, keeps1_builtin, meth_list hH F.slot_list_append rfl, aws_cons (aw_tup (aws_cons (aw_str (aws_cons (aw_BinOp (aw_local rfl (aw_int ⟨_, bin_mod (by decide), aws_cons ?_⟩)))))))⟩)
        refine aw_call keep_law_spans (aw_global g_law_spans ⟨rfl, aws_cons (aw_local rfl (aws_cons (aw_sub (aw_cell i2 (aw_BinOp (aw_local rfl (aw_int ⟨_, bin_mod (by decide), _, sub_tup0 p0 (by (first | lia | omega)) (tops_get' hT.len p0 p3), aws_nil ?_⟩)))) (by decide))))⟩)
        refine (c_spans ht.1 ht.2 fun spans h1 h2 => ?_).le (by decide)
        refine aws_cons (aw_int (aws_nil ⟨by simp, aws_nil (fn_append hH (by simp; (first | lia | omega)) (ax_nil (ax_nil ⟨i1, i2, i3, steps ++ [.test (p.fmod 3) spans], i4.snoc (s := .test (p.fmod 3) spans) ⟨p0, p3, h1, h2⟩, by simp; (first | lia | omega), ?_⟩)))⟩))
        try dsimp only [conU, fnQ, fnM, outQ, nx, asQ, retQ, nexQ, endQ, flV]
        rw [i6, hput_put, List.map_append]; rfl
      · have hne : kd.fmod 5 ≠ 4 := by simpa using e
        have k0 := Int.fmod_nonneg_of_pos kd (b := 5) (by decide)
        have k5 := Int.fmod_lt_of_pos kd (b := 5) (by decide)
        refine ax_cons (ax1_assign (aw_call keeps1_builtin (aw_builtin n_len rfl ⟨rfl, aws_cons (aw_local i3 (aws_nil (fn_len_H hH (by simp; (first | lia | omega)) (aas_cell ?_))))⟩)))
        have hpos : 0 < steps.length := by (first | lia | omega)
        have hmz : (((steps.map Step.toV).length : Nat) : Int) ≠ 0 := by rw [List.length_map]; (first | lia | omega)
        refine ax_cons (ax1_assign (aw_comp false ?hc (by rfl) (by simp)))
        refine awI_tup (aw_tup ?_)
        refine aws_cons (aw_local rfl (aws_cons (aw_local rfl (aws_cons (aw_local rfl (aws_nil ?_))))))
        refine ⟨by simp, _, rfl, .inr ⟨⟨_, _, rfl⟩, rfl⟩, fun j ys st => A3 (st.m "many" = some (.int ((steps.map Step.toV).length : Nat))) (st.H = st₃.H) (ys = ([p, q', r].take j).map fun n => V.int (((steps.map Step.toV).length : Int) - 1 - n.fmod (steps.map Step.toV).length)), ⟨rfl, rfl, rfl⟩, ?_, ?_⟩
        · rintro j u ys st₄ hj ⟨j1, j2, j3⟩
          obtain ⟨n, hn, rfl⟩ := get_map (g := V.int) (l := [p, q', r]) hj
          have hjl := (List.getElem?_eq_some_iff.mp hn).1
          refine aas_local ⟨by rw [j3]; simp; (first | lia | omega), ?_⟩
          refine aw_BinOp (aw_BinOp (aw_cell j1 (aw_int ⟨_, bin_sub, aw_BinOp (aw_local rfl (aw_cell j1 ⟨_, bin_mod hmz, _, bin_sub, j1, j2, ?_⟩))⟩)))
          rw [j3, take_snoc hn, List.map_append]; rfl
        · rintro ys st₄ ⟨j1, j2, j3⟩
          have ej : ([p, q', r].take 3) = [p, q', r] := rfl
          have j3' : ys = [V.int (((steps.map Step.toV).length : Int) - 1 - p.fmod (steps.map Step.toV).length), V.int (((steps.map Step.toV).length : Int) - 1 - q'.fmod (steps.map Step.toV).length), V.int (((steps.map Step.toV).length : Int) - 1 - r.fmod (steps.map Step.toV).length)] := j3
          subst j3'
          have hll : ((steps.map Step.toV).length : Int) = steps.length := by simp
          have b1 := back_in hpos p
          have b2 := back_in hpos q'
          have b3 := back_in hpos r
          rw [hll]
          generalize ((steps.length : Int) - 1 - p.fmod steps.length) = a at b1 ⊢
          generalize ((steps.length : Int) - 1 - q'.fmod steps.length) = b at b2 ⊢
          generalize ((steps.length : Int) - 1 - r.fmod steps.length) = c at b3 ⊢
          refine aas_tupL (aas_local (aas_local (aas_local ?_))) rfl
          try dsimp only [conU, fnQ, fnM, outQ, nx, asQ, retQ, nexQ, endQ, flV]
          rw [j2]
          have pick : ∃ (nm : Str) (s : Step), [V.str "both", .str "either", .str "negate", .str "choose"][(kd.fmod 5).toNat]? = some (.str nm) ∧ StepOk steps.length s ∧ s.toV = .tup [.str nm, .int a, .int b, .int c] := by
            have : kd.fmod 5 = 0 ∨ kd.fmod 5 = 1 ∨ kd.fmod 5 = 2 ∨ kd.fmod 5 = 3 := by (first | lia | omega)
            rcases this with e | e | e | e <;> rw [e]
            · exact ⟨"both", .both a b c, rfl, ⟨b1, b2, b3⟩, rfl⟩
            · exact ⟨"either", .either a b c, rfl, ⟨b1, b2, b3⟩, rfl⟩
            · exact ⟨"negate", .negate a b c, rfl, ⟨b1, b2, b3⟩, rfl⟩
            · exact ⟨"choose", .choose a b c, rfl, ⟨b1, b2, b3⟩, rfl⟩
          obtain ⟨nm, s, g1, g2, g3⟩ := pick
          refine ax_cons (ax1_expr ?_ (by intro _ e; unfold interactive; rw [e]; rfl))
          refine aw_meth (aw_local i3 ⟨.builtin "list.append", _, keeps1_builtin, meth_list hH F.slot_list_append rfl, aws_cons (aw_tup (aws_cons ?_))⟩)
          refine aw_sub (aw_tup (aws_cons (aw_str (aws_cons (aw_str (aws_cons (aw_str (aws_cons (aw_str (aws_nil ⟨by simp, ?_⟩)))))))))) (by decide)
          refine aw_BinOp (aw_local rfl (aw_int ⟨_, bin_mod (by decide), _, sub_tup0 k0 (by (first | lia | omega)) g1, ?_⟩))
          refine aws_cons (aw_local rfl (aws_cons (aw_local rfl (aws_cons (aw_local rfl (aws_nil ⟨by simp, aws_nil ?_⟩))))))
          refine fn_append hH (by simp; (first | lia | omega)) (ax_nil (ax_nil ⟨i1, i2, i3, steps ++ [s], i4.snoc g2, by simp; (first | lia | omega), ?_⟩))
          try dsimp only [conU, fnQ, fnM, outQ, nx, asQ, retQ, nexQ, endQ, flV]
          rw [i6, hput_put, List.map_append, ← g3]; rfl
    · rintro st₃ ⟨i1, i2, i3, steps, i4, i5, i6⟩
      rw [step_len] at i5
      refine ax_cons (ax1_ret (aw_freeze (aw_local i3 ⟨sa, _, rfl, by rw [i6]; exact hput_self, ?_⟩)))
      try dsimp only [conU, fnQ, fnM, outQ, nx, asQ, retQ, nexQ, endQ, flV]
      rw [i6, hdel_put hsa]
      exact q steps i4 i5
  · intro env e; obtain ⟨s1, s2, s3, s4, s5, s6, s7, s8, s9⟩ := env; dsimp only at e; subst e; rfl
end
end Mine
end

section
open PySem PySem.W PyProof.Rows PySem.Calls
set_option Elab.async false
set_option maxRecDepth 100000
set_option linter.unusedVariables false
namespace Mine
def aOf (cl : List Int) : Int → Int := fun x => cl.getD x.toNat 0
section
variable {C : Cx} {f : Fm} {st : St} {G : Gd} {D : Dg} {H : Addr → Option AO} {d : Nat} {Q : V → (Addr → Option AO) → Prop}
theorem c_tried {steps : List Step} {cl : List Int} (hc : cl.length = 3) (hs : StepsOk steps) (hl : steps.length = 8) (q : Q (.int (if tried steps (aOf cl) then 1 else 0)) H) : Fn C 3 (.ref 201) [.lst (steps.map Step.toV), V.ints cl] H Q := by
  refine fn_plain def_law_tried rfl (by kernel_rfl) ?_
  conv => arg 3; whnf
  conv => arg 2; arg 1; whnf
  refine ax_cons (ax1_assign (aw_listH (aws_nil ⟨by simp, fun sa hsa => aas_local ?_⟩)))
  dsimp only at hsa
  refine ax_cons (ax1_for (awI_lst (aw_local rfl ⟨_, rfl, .inl ⟨_, _, _, rfl⟩, fun i st => A3 (st.m "cell" = some (V.ints cl)) (st.m "seen" = some (.raw (.ref sa))) (st.H = hput H sa (.list ((seenL (aOf cl) (steps.take i) []).map V.bool))), ⟨rfl, rfl, rfl⟩, ?_, ?_⟩)))
  · rintro i u st₂ hi ⟨e1, e2, e3⟩
    obtain ⟨s, hsi, rfl⟩ := get_map hi
    have hlt := (List.getElem?_eq_some_iff.mp hsi).1
    have ok := hs i s hsi
    have hlen : (seenL (aOf cl) (steps.take i) []).length = i := by rw [seenL_len]; simp; (first | lia | omega)
    generalize hseen : seenL (aOf cl) (steps.take i) [] = seen at *
    have hH : st₂.H sa = some (.list (seen.map V.bool)) := by rw [e3]; exact hput_self
    have get : ∀ (x : Int), inR i x → SubOk C (.raw (.ref sa)) (.int x) st₂.H (.bool (sget seen x)) := fun x hx =>
      sub_H hH hx.1 (by unfold inR at hx; (first | lia | omega)) (by rw [List.getElem?_map, sget_get (by rw [hlen]; exact hx)]; rfl)
    have fin : ∀ b, b = stepB seen (aOf cl) s → hput st₂.H sa (.list (seen.map V.bool ++ [.bool b])) = hput H sa (.list ((seenL (aOf cl) (steps.take (i + 1)) []).map V.bool)) := fun b hb => by
      rw [e3, hput_put, take_snoc hsi, seenL_snoc, hseen, hb, List.map_append]; rfl
    have hap : (seen.map V.bool).length ≤ 2 ^ 24 := by simp; (first | lia | omega)
    cases s with
    | test k sp =>
      obtain ⟨k0, k3, s3, sok⟩ := ok
      refine aas_tup (us := [.str "test", .int k, .lst (sp.map V.pair), .int 0]) (aas_local (aas_local (aas_local (aas_local ?_)))) rfl
      refine ax_cons (ax1_if (at_cmp (aw_local rfl (aw_str ⟨_, cmp_eq_ss, fun _ => ?_, fun e => (by simp at e)⟩))))
      refine ax_cons (ax1_expr ?_ (by intro _ e; unfold interactive; rw [e]; rfl))
      refine aw_meth (aw_local e2 ⟨.builtin "list.append", _, keeps1_builtin, meth_list hH F.slot_list_append rfl, aws_cons ?_⟩)
      refine aw_call keep_law_within (aw_global g_law_within ⟨rfl, aws_cons (aw_local rfl (aws_cons (aw_sub (aw_local e1 (aw_local rfl ⟨.int (aOf cl k), sub_tup0 k0 (by (first | lia | omega)) ?_, aws_nil ?_⟩)) (by decide))))⟩)
      · have : k.toNat < cl.length := by (first | lia | omega)
        unfold aOf; simp [this]
      · exact c_within (aws_nil (fn_append hH hap (ax_nil (ax_nil ⟨e1, e2, fin _ rfl⟩))))
    | both x y z =>
      obtain ⟨hx, hy, hz⟩ := ok
      refine aas_tup (us := [.str "both", .int x, .int y, .int z]) (aas_local (aas_local (aas_local (aas_local ?_)))) rfl
      refine ax_cons (ax1_if (at_cmp (aw_local rfl (aw_str ⟨_, cmp_eq_ss, fun e => (by cases e), fun _ => ?_⟩))))
      refine ax_cons (ax1_if (at_cmp (aw_local rfl (aw_str ⟨_, cmp_eq_ss, fun _ => ?_, fun e => (by simp at e)⟩))))
      refine ax_cons (ax1_expr ?_ (by intro _ e; unfold interactive; rw [e]; rfl))
      refine aw_meth (aw_local e2 ⟨.builtin "list.append", _, keeps1_builtin, meth_list hH F.slot_list_append rfl, aws_cons ?_⟩)
      refine aw_and (aw_sub (aw_local e2 (aw_local rfl ⟨_, get x hx, _, tr_bool, fun e => ?_, fun e => ?_⟩)) (by decide))
      · refine aw_sub (aw_local e2 (aw_local rfl ⟨_, get y hy, aws_nil (fn_append hH hap (ax_nil (ax_nil (ax_nil ⟨e1, e2, fin _ ?_⟩))))⟩)) (by decide)
        show _ = (sget seen x && sget seen y)
        rw [e]; rfl
      · refine aws_nil (fn_append hH hap (ax_nil (ax_nil (ax_nil ⟨e1, e2, fin _ ?_⟩))))
        show _ = (sget seen x && sget seen y)
        rw [e]; rfl
    | either x y z =>
      obtain ⟨hx, hy, hz⟩ := ok
      refine aas_tup (us := [.str "either", .int x, .int y, .int z]) (aas_local (aas_local (aas_local (aas_local ?_)))) rfl
      refine ax_cons (ax1_if (at_cmp (aw_local rfl (aw_str ⟨_, cmp_eq_ss, fun e => (by cases e), fun _ => ?_⟩))))
      refine ax_cons (ax1_if (at_cmp (aw_local rfl (aw_str ⟨_, cmp_eq_ss, fun e => (by cases e), fun _ => ?_⟩))))
      refine ax_cons (ax1_if (at_cmp (aw_local rfl (aw_str ⟨_, cmp_eq_ss, fun _ => ?_, fun e => (by simp at e)⟩))))
      refine ax_cons (ax1_expr ?_ (by intro _ e; unfold interactive; rw [e]; rfl))
      refine aw_meth (aw_local e2 ⟨.builtin "list.append", _, keeps1_builtin, meth_list hH F.slot_list_append rfl, aws_cons ?_⟩)
      refine aw_or (aw_sub (aw_local e2 (aw_local rfl ⟨_, get x hx, _, tr_bool, fun e => ?_, fun e => ?_⟩)) (by decide))
      · refine aw_sub (aw_local e2 (aw_local rfl ⟨_, get y hy, aws_nil (fn_append hH hap (ax_nil (ax_nil (ax_nil (ax_nil ⟨e1, e2, fin _ ?_⟩)))))⟩)) (by decide)
        show _ = (sget seen x || sget seen y)
        rw [e]; rfl
      · refine aws_nil (fn_append hH hap (ax_nil (ax_nil (ax_nil (ax_nil ⟨e1, e2, fin _ ?_⟩)))))
        show _ = (sget seen x || sget seen y)
        rw [e]; rfl
    | negate x y z =>
      obtain ⟨hx, hy, hz⟩ := ok
      refine aas_tup (us := [.str "negate", .int x, .int y, .int z]) (aas_local (aas_local (aas_local (aas_local ?_)))) rfl
      refine ax_cons (ax1_if (at_cmp (aw_local rfl (aw_str ⟨_, cmp_eq_ss, fun e => (by cases e), fun _ => ?_⟩))))
      refine ax_cons (ax1_if (at_cmp (aw_local rfl (aw_str ⟨_, cmp_eq_ss, fun e => (by cases e), fun _ => ?_⟩))))
      refine ax_cons (ax1_if (at_cmp (aw_local rfl (aw_str ⟨_, cmp_eq_ss, fun e => (by cases e), fun _ => ?_⟩))))
      refine ax_cons (ax1_if (at_cmp (aw_local rfl (aw_str ⟨_, cmp_eq_ss, fun _ => ?_, fun e => (by simp at e)⟩))))
      refine ax_cons (ax1_expr ?_ (by intro _ e; unfold interactive; rw [e]; rfl))
      refine aw_meth (aw_local e2 ⟨.builtin "list.append", _, keeps1_builtin, meth_list hH F.slot_list_append rfl, aws_cons ?_⟩)
      refine aw_not (aw_sub (aw_local e2 (aw_local rfl ⟨_, get x hx, _, tr_bool, aws_nil (fn_append hH hap (ax_nil (ax_nil (ax_nil (ax_nil (ax_nil ⟨e1, e2, fin _ rfl⟩))))))⟩)) (by decide))
    | choose x y z =>
      obtain ⟨hx, hy, hz⟩ := ok
      refine aas_tup (us := [.str "choose", .int x, .int y, .int z]) (aas_local (aas_local (aas_local (aas_local ?_)))) rfl
      refine ax_cons (ax1_if (at_cmp (aw_local rfl (aw_str ⟨_, cmp_eq_ss, fun e => (by cases e), fun _ => ?_⟩))))
      refine ax_cons (ax1_if (at_cmp (aw_local rfl (aw_str ⟨_, cmp_eq_ss, fun e => (by cases e), fun _ => ?_⟩))))
      refine ax_cons (ax1_if (at_cmp (aw_local rfl (aw_str ⟨_, cmp_eq_ss, fun e => (by cases e), fun _ => ?_⟩))))
      refine ax_cons (ax1_if (at_cmp (aw_local rfl (aw_str ⟨_, cmp_eq_ss, fun e => (by cases e), fun _ => ?_⟩))))
      refine ax_cons (ax1_expr ?_ (by intro _ e; unfold interactive; rw [e]; rfl))
      refine aw_meth (aw_local e2 ⟨.builtin "list.append", _, keeps1_builtin, meth_list hH F.slot_list_append rfl, aws_cons ?_⟩)
      refine aw_ite (at_val (aw_sub (aw_local e2 (aw_local rfl ⟨_, get x hx, _, tr_bool, fun e => ?_, fun e => ?_⟩)) (by decide)))
      · refine aw_sub (aw_local e2 (aw_local rfl ⟨_, get y hy, aws_nil (fn_append hH hap (ax_nil (ax_nil (ax_nil (ax_nil (ax_nil ⟨e1, e2, fin _ ?_⟩))))))⟩)) (by decide)
        show _ = (if sget seen x then sget seen y else sget seen z)
        rw [e]; rfl
      · refine aw_sub (aw_local e2 (aw_local rfl ⟨_, get z hz, aws_nil (fn_append hH hap (ax_nil (ax_nil (ax_nil (ax_nil (ax_nil ⟨e1, e2, fin _ ?_⟩))))))⟩)) (by decide)
        show _ = (if sget seen x then sget seen y else sget seen z)
        rw [e]; rfl
  · rintro st₂ ⟨e1, e2, e3⟩
    rw [List.length_map, List.take_length] at e3
    have hlen : (seenL (aOf cl) steps []).length = 8 := by rw [seenL_len, hl]; rfl
    have hne : seenL (aOf cl) steps [] ≠ [] := by intro e; rw [e] at hlen; cases hlen
    obtain ⟨b, hb⟩ : ∃ b, (seenL (aOf cl) steps []).getLast? = some b := ⟨_, List.getLast?_eq_some_getLast hne⟩
    have ht : tried steps (aOf cl) = b := by unfold tried; rw [hb]; rfl
    rw [ht] at q
    obtain ⟨l, el⟩ := last_split hb
    have hH : st₂.H sa = some (.list ((seenL (aOf cl) steps []).map V.bool)) := by rw [e3]; exact hput_self
    have hlast : ((seenL (aOf cl) steps []).map V.bool)[((-1 : Int) + ((seenL (aOf cl) steps []).map V.bool).length).toNat]? = some (.bool b) := by
      rw [el]
      have : ((-1 : Int) + ((l ++ [b]).map V.bool).length).toNat = (l.map V.bool).length := by simp; (first | lia | omega)
      rw [this]; simp
    refine ax_cons (ax1_ret (aw_ite (at_val (aw_sub (aw_freeze (aw_local e2 ⟨sa, _, rfl, hH, aw_neg (aw_int ⟨_, rfl, _, sub_lstN (by decide) (by rw [List.length_map, hlen]; decide) (by decide) hlast, _, tr_bool, fun e => ?_, fun e => ?_⟩)⟩)) (by decide)))))
    · refine aw_int ?_
      try dsimp only [conU, fnQ, fnM, outQ, nx, asQ, retQ, nexQ, endQ, flV]
      rw [e3, hdel_put hsa]
      rw [e] at q; exact q
    · refine aw_int ?_
      try dsimp only [conU, fnQ, fnM, outQ, nx, asQ, retQ, nexQ, endQ, flV]
      rw [e3, hdel_put hsa]
      rw [e] at q; exact q
end
end Mine
end

section
open PySem PySem.W PyProof.Rows PySem.Calls
set_option Elab.async false
set_option maxRecDepth 100000
set_option linter.unusedVariables false
namespace Mine
theorem Grow.yes {T : List Int} {D D' : Dg} {g : Nat} (x : Grow T D D' g) {n : Int} {k : Node} (h : nd D.nodes n = some k) : nd D'.nodes n = some k := x.pre.nd h
section
variable {C : Cx} {f : Fm} {st : St} {G : Gd} {D : Dg} {H : Addr → Option AO} {d : Nat} {Q : V → (Addr → Option AO) → Prop}
structure LnI (G : Gd) (D : Dg) (H : Addr → Option AO) (steps : List Step) (yes no : Int) (ma : Addr) (i : Nat) (st : St) : Prop where
  md : st.m "diagrams" = some G.val
  my : st.m "yes" = some (.int yes)
  mn : st.m "no" = some (.int no)
  mm : st.m "made" = some (.raw (.ref ma))
  e : ∃ (Di : Dg) (ml : List Int), Grow G.tops D Di (2 + i * 30) ∧ nd Di.nodes yes = some (.leaf 1) ∧ nd Di.nodes no = some (.leaf 0) ∧ st.H = DH G Di (hput H ma (.list (ml.map .int))) ∧ ml.length = i ∧
    ∀ (j : Nat) r, ml[j]? = some r → Tells G.tops Di.nodes r (fun a => (seenL a (steps.take i) []).getD j false)
theorem c_lawnode (o : G.Ok) (hT : TopsOk G.tops) (I : Inv G.tops D) (hn : sizeD D + 1000 ≤ lim) {steps : List Step} (hs : StepsOk steps) (hl : steps.length = 8) (q : ∀ r D', Grow G.tops D D' 300 → Tells G.tops D'.nodes r (tried steps) → Q (.int r) (DH G D' H)) :
    Fn C 12 (.ref 208) [G.val, .lst (steps.map Step.toV)] (DH G D H) Q := by
  refine fn_plain def_law_node rfl (by kernel_rfl) ?_
  conv => arg 3; whnf
  conv => arg 2; arg 1; whnf
  refine ax_cons (ax1_pair (by decide) ?_ ?_ ?_)
  · refine aws_cons (aw_meth (aw_local (u := G.val) rfl ⟨.ref 81, _, keep_leaf, meth_inst pg_leaf find_leaf ty_leaf rfl, aws_cons (aw_int (aws_nil (m_leaf o I (by (first | lia | omega)) (by decide) fun yes D1 g1 hy => ?_)))⟩))
    have s1 := g1.size
    refine aws_cons (aw_meth (aw_local (u := G.val) rfl ⟨.ref 81, _, keep_leaf, meth_inst pg_leaf find_leaf ty_leaf rfl, aws_cons (aw_int (aws_nil (m_leaf o g1.inv (by (first | lia | omega)) (by decide) fun no D2 g2 hno => ?_)))⟩))
    refine aws_nil ⟨_, _, rfl, ?_⟩
    refine ax_cons (ax1_assign (aw_listH (aws_nil ⟨by simp, fun ma hma => aas_local ?_⟩)))
    dsimp only at hma
    obtain ⟨n1, n2, n3, hm0⟩ := DH_none o hma
    refine ax_cons (ax1_for (awI_lst (aw_local rfl ⟨_, rfl, .inl ⟨_, _, _, rfl⟩, LnI G D H steps yes no ma, ⟨rfl, rfl, rfl, rfl, D2, [], (g1.trans g2).le (by (first | lia | omega)), g2.yes hy, hno, ?_, rfl, fun j r e => by simp at e⟩, ?_, ?_⟩)))
    · dsimp only [conU, fnQ, fnM, outQ, nx, asQ, retQ, nexQ, endQ, flV]
      rw [DH_put n1 n2 n3]; rfl
    · rintro i u st₂ hi ⟨e1, e2, e3, e4, Di, ml, g, fy, fno, e5, e6, tl⟩
      obtain ⟨s, hsi, rfl⟩ := get_map hi
      have hlt := (List.getElem?_eq_some_iff.mp hsi).1
      have ok := hs i s hsi
      have hsz := g.size
      have get : ∀ (x : Int), inR i x → ∃ r, ml[x.toNat]? = some r ∧ Tells G.tops Di.nodes r (fun a => sget (seenL a (steps.take i) []) x) := fun x hx => by
        have : x.toNat < ml.length := by unfold inR at hx; (first | lia | omega)
        exact ⟨ml[x.toNat], by simp [this], tl x.toNat _ (by simp [this])⟩
      have sub : ∀ {D' : Dg} (x r : Int), inR i x → ml[x.toNat]? = some r → SubOk C (.raw (.ref ma)) (.int x) (DH G D' (hput H ma (.list (ml.map .int)))) (.int r) := fun x r hx hr =>
        sub_H (by rw [DH_ne n1 n2 n3, hput_self]) hx.1 (by unfold inR at hx; (first | lia | omega)) (by rw [List.getElem?_map, hr]; rfl)
      have fin : ∀ (r : Int) (D' : Dg) (st₃ : St), st₃.m "diagrams" = some G.val → st₃.m "yes" = some (.int yes) → st₃.m "no" = some (.int no) → st₃.m "made" = some (.raw (.ref ma)) → Grow G.tops Di D' 30 → Tells G.tops D'.nodes r (fun a => stepB (seenL a (steps.take i) []) a s) →
          st₃.H = hput (DH G D' (hput H ma (.list (ml.map .int)))) ma (.list (ml.map .int ++ [.int r])) → LnI G D H steps yes no ma (i + 1) st₃ := fun r D' st₃ f1 f2 f3 f4 g' ht eh => by
        refine ⟨f1, f2, f3, f4, D', ml ++ [r], (g.trans g').le (by (first | lia | omega)), g'.yes fy, g'.yes fno, ?_, by simp [e6], fun j r' hj => ?_⟩
        · rw [eh, DH_put n1 n2 n3, hput_put, List.map_append]; rfl
        · have hsl : ∀ a, (seenL a (steps.take i) []).length = i := fun a => by rw [seenL_len]; simp; (first | lia | omega)
          by_cases q : j < ml.length
          · rw [List.getElem?_append_left q] at hj
            have := (tl j r' hj).mono g'.pre
            have ef : (fun a => (seenL a (steps.take (i + 1)) []).getD j false) = fun a => (seenL a (steps.take i) []).getD j false := by
              funext a
              rw [take_snoc hsi, seenL_snoc]
              simp only [List.getD_eq_getElem?_getD]
              rw [List.getElem?_append_left (by rw [hsl]; (first | lia | omega))]
            rw [ef]; exact this
          · rw [List.getElem?_append_right (by (first | lia | omega))] at hj
            have hj0 : j - ml.length = 0 := by have := (List.getElem?_eq_some_iff.mp hj).1; simp at this; (first | lia | omega)
            rw [hj0] at hj
            simp only [List.getElem?_cons_zero, Option.some.injEq] at hj
            subst hj
            have ef : (fun a => (seenL a (steps.take (i + 1)) []).getD j false) = fun a => stepB (seenL a (steps.take i) []) a s := by
              funext a
              rw [take_snoc hsi, seenL_snoc]
              simp only [List.getD_eq_getElem?_getD]
              rw [List.getElem?_append_right (by rw [hsl]; (first | lia | omega)), hsl, show j - i = 0 by (first | lia | omega)]; rfl
            rw [ef]; exact ht
      have hap : (ml.map V.int).length ≤ 2 ^ 24 := by simp; (first | lia | omega)
      have hHm : ∀ {D' : Dg}, (DH G D' (hput H ma (.list (ml.map .int)))) ma = some (.list (ml.map .int)) := fun {D'} => by rw [DH_ne n1 n2 n3, hput_self]
      have hH : st₂.H ma = some (.list (ml.map .int)) := by rw [e5]; exact hHm
      cases s with
      | test k sp =>
        obtain ⟨k0, k3, s3, sok⟩ := ok
        refine aas_tup (us := [.str "test", .int k, .lst (sp.map V.pair), .int 0]) (aas_local (aas_local (aas_local (aas_local ?_)))) rfl
        refine ax_cons (ax1_if (at_cmp (aw_local rfl (aw_str ⟨_, cmp_eq_ss, fun _ => ?_, fun e => (by simp at e)⟩))))
        refine ax_cons (ax1_expr ?_ (by intro _ e; unfold interactive; rw [e]; rfl))
        refine aw_meth (aw_local e4 ⟨.builtin "list.append", _, keeps1_builtin, meth_list hH F.slot_list_append rfl, aws_cons ?_⟩)
        refine aw_call keep_test (aw_global g_test ⟨rfl, aws_cons (aw_local e1 (aws_cons (aw_local rfl (aws_cons (aw_local rfl (aws_cons (aw_local e2 (aws_cons (aw_local e3 (aws_nil ?_))))))))))⟩)
        try dsimp only [conU, fnQ, fnM, outQ, nx, asQ, retQ, nexQ, endQ, flV]
        rw [e5]
        refine (c_test o hT g.inv (by (first | lia | omega)) k0 k3 s3 sok fy fno fun r D' g' ht => aws_nil (fn_append hHm hap (ax_nil (ax_nil (show LnI G D H steps yes no ma (i + 1) _ from fin r D' _ (by exact e1) (by exact e2) (by exact e3) (by exact e4) (g'.le (by (first | lia | omega))) ht rfl))))).le (by decide)
      | both x y z =>
        obtain ⟨hx, hy', hz⟩ := ok
        obtain ⟨rx, gx, tx⟩ := get x hx
        obtain ⟨ry, gy, ty⟩ := get y hy'
        refine aas_tup (us := [.str "both", .int x, .int y, .int z]) (aas_local (aas_local (aas_local (aas_local ?_)))) rfl
        refine ax_cons (ax1_if (at_cmp (aw_local rfl (aw_str ⟨_, cmp_eq_ss, fun e => (by cases e), fun _ => ?_⟩))))
        refine ax_cons (ax1_if (at_cmp (aw_local rfl (aw_str ⟨_, cmp_eq_ss, fun _ => ?_, fun e => (by simp at e)⟩))))
        refine ax_cons (ax1_expr ?_ (by intro _ e; unfold interactive; rw [e]; rfl))
        refine aw_meth (aw_local e4 ⟨.builtin "list.append", _, keeps1_builtin, meth_list hH F.slot_list_append rfl, aws_cons ?_⟩)
        try dsimp only [conU, fnQ, fnM, outQ, nx, asQ, retQ, nexQ, endQ, flV]
        rw [e5]
        refine aw_call keep_both (aw_global g_both ⟨rfl, aws_cons (aw_local e1 (aws_cons (aw_sub (aw_local e4 (aw_local rfl ⟨_, sub x rx hx gx, aws_cons (aw_sub (aw_local e4 (aw_local rfl ⟨_, sub y ry hy' gy, aws_nil ?_⟩)) (by decide))⟩)) (by decide))))⟩)
        refine (c_both o hT g.inv (by (first | lia | omega)) tx ty fun r D' g' ht => aws_nil (fn_append hHm hap (ax_nil (ax_nil (ax_nil (show LnI G D H steps yes no ma (i + 1) _ from fin r D' _ (by exact e1) (by exact e2) (by exact e3) (by exact e4) g' ht rfl)))))).le (by decide)
      | either x y z =>
        obtain ⟨hx, hy', hz⟩ := ok
        obtain ⟨rx, gx, tx⟩ := get x hx
        obtain ⟨ry, gy, ty⟩ := get y hy'
        refine aas_tup (us := [.str "either", .int x, .int y, .int z]) (aas_local (aas_local (aas_local (aas_local ?_)))) rfl
        refine ax_cons (ax1_if (at_cmp (aw_local rfl (aw_str ⟨_, cmp_eq_ss, fun e => (by cases e), fun _ => ?_⟩))))
        refine ax_cons (ax1_if (at_cmp (aw_local rfl (aw_str ⟨_, cmp_eq_ss, fun e => (by cases e), fun _ => ?_⟩))))
        refine ax_cons (ax1_if (at_cmp (aw_local rfl (aw_str ⟨_, cmp_eq_ss, fun _ => ?_, fun e => (by simp at e)⟩))))
        refine ax_cons (ax1_expr ?_ (by intro _ e; unfold interactive; rw [e]; rfl))
        refine aw_meth (aw_local e4 ⟨.builtin "list.append", _, keeps1_builtin, meth_list hH F.slot_list_append rfl, aws_cons ?_⟩)
        try dsimp only [conU, fnQ, fnM, outQ, nx, asQ, retQ, nexQ, endQ, flV]
        rw [e5]
        refine aw_call keep_either (aw_global g_either ⟨rfl, aws_cons (aw_local e1 (aws_cons (aw_sub (aw_local e4 (aw_local rfl ⟨_, sub x rx hx gx, aws_cons (aw_sub (aw_local e4 (aw_local rfl ⟨_, sub y ry hy' gy, aws_nil ?_⟩)) (by decide))⟩)) (by decide))))⟩)
        refine (c_either o hT g.inv (by (first | lia | omega)) tx ty fun r D' g' ht => aws_nil (fn_append hHm hap (ax_nil (ax_nil (ax_nil (ax_nil (show LnI G D H steps yes no ma (i + 1) _ from fin r D' _ (by exact e1) (by exact e2) (by exact e3) (by exact e4) g' ht rfl))))))).le (by decide)
      | negate x y z =>
        obtain ⟨hx, hy', hz⟩ := ok
        obtain ⟨rx, gx, tx⟩ := get x hx
        refine aas_tup (us := [.str "negate", .int x, .int y, .int z]) (aas_local (aas_local (aas_local (aas_local ?_)))) rfl
        refine ax_cons (ax1_if (at_cmp (aw_local rfl (aw_str ⟨_, cmp_eq_ss, fun e => (by cases e), fun _ => ?_⟩))))
        refine ax_cons (ax1_if (at_cmp (aw_local rfl (aw_str ⟨_, cmp_eq_ss, fun e => (by cases e), fun _ => ?_⟩))))
        refine ax_cons (ax1_if (at_cmp (aw_local rfl (aw_str ⟨_, cmp_eq_ss, fun e => (by cases e), fun _ => ?_⟩))))
        refine ax_cons (ax1_if (at_cmp (aw_local rfl (aw_str ⟨_, cmp_eq_ss, fun _ => ?_, fun e => (by simp at e)⟩))))
        refine ax_cons (ax1_expr ?_ (by intro _ e; unfold interactive; rw [e]; rfl))
        refine aw_meth (aw_local e4 ⟨.builtin "list.append", _, keeps1_builtin, meth_list hH F.slot_list_append rfl, aws_cons ?_⟩)
        try dsimp only [conU, fnQ, fnM, outQ, nx, asQ, retQ, nexQ, endQ, flV]
        rw [e5]
        refine aw_call keep_negate (aw_global g_negate ⟨rfl, aws_cons (aw_local e1 (aws_cons (aw_sub (aw_local e4 (aw_local rfl ⟨_, sub x rx hx gx, aws_nil ?_⟩)) (by decide))))⟩)
        refine (c_negate o hT g.inv (by (first | lia | omega)) tx fun r D' g' ht => aws_nil (fn_append hHm hap (ax_nil (ax_nil (ax_nil (ax_nil (ax_nil (show LnI G D H steps yes no ma (i + 1) _ from fin r D' _ (by exact e1) (by exact e2) (by exact e3) (by exact e4) g' ht rfl)))))))).le (by decide)
      | choose x y z =>
        obtain ⟨hx, hy', hz⟩ := ok
        obtain ⟨rx, gx, tx⟩ := get x hx
        obtain ⟨ry, gy, ty⟩ := get y hy'
        obtain ⟨rz, gz, tz⟩ := get z hz
        refine aas_tup (us := [.str "choose", .int x, .int y, .int z]) (aas_local (aas_local (aas_local (aas_local ?_)))) rfl
        refine ax_cons (ax1_if (at_cmp (aw_local rfl (aw_str ⟨_, cmp_eq_ss, fun e => (by cases e), fun _ => ?_⟩))))
        refine ax_cons (ax1_if (at_cmp (aw_local rfl (aw_str ⟨_, cmp_eq_ss, fun e => (by cases e), fun _ => ?_⟩))))
        refine ax_cons (ax1_if (at_cmp (aw_local rfl (aw_str ⟨_, cmp_eq_ss, fun e => (by cases e), fun _ => ?_⟩))))
        refine ax_cons (ax1_if (at_cmp (aw_local rfl (aw_str ⟨_, cmp_eq_ss, fun e => (by cases e), fun _ => ?_⟩))))
        refine ax_cons (ax1_expr ?_ (by intro _ e; unfold interactive; rw [e]; rfl))
        refine aw_meth (aw_local e4 ⟨.builtin "list.append", _, keeps1_builtin, meth_list hH F.slot_list_append rfl, aws_cons ?_⟩)
        try dsimp only [conU, fnQ, fnM, outQ, nx, asQ, retQ, nexQ, endQ, flV]
        rw [e5]
        refine aw_call keep_choose (aw_global g_choose ⟨rfl, aws_cons (aw_local e1 (aws_cons (aw_sub (aw_local e4 (aw_local rfl ⟨_, sub x rx hx gx, aws_cons (aw_sub (aw_local e4 (aw_local rfl ⟨_, sub y ry hy' gy, aws_cons (aw_sub (aw_local e4 (aw_local rfl ⟨_, sub z rz hz gz, aws_nil ?_⟩)) (by decide))⟩)) (by decide))⟩)) (by decide))))⟩)
        refine m_choose o hT g.inv (by (first | lia | omega)) (by decide) tx ty tz fun r D' g' ht => aws_nil (fn_append hHm hap (ax_nil (ax_nil (ax_nil (ax_nil (ax_nil (show LnI G D H steps yes no ma (i + 1) _ from fin r D' _ (by exact e1) (by exact e2) (by exact e3) (by exact e4) (g'.le (by (first | lia | omega))) ht rfl)))))))
    · rintro st₂ ⟨e1, e2, e3, e4, Di, ml, g, fy, fno, e5, e6, tl⟩
      rw [List.length_map, hl] at g e6
      rw [List.length_map, List.take_length] at tl
      have hne : ml ≠ [] := by rintro rfl; cases e6
      obtain ⟨r, hr⟩ : ∃ r, ml.getLast? = some r := ⟨_, List.getLast?_eq_some_getLast hne⟩
      obtain ⟨l, el⟩ := last_split hr
      have hr7 : ml[7]? = some r := by
        rw [el] at e6 ⊢
        have : l.length = 7 := by simpa using e6
        rw [List.getElem?_append_right (by (first | lia | omega)), this]; rfl
      have ht := tl 7 r hr7
      have ef : (fun a => (seenL a steps []).getD 7 false) = tried steps := by
        funext a
        unfold tried
        rw [List.getLast?_eq_getElem?, seenL_len, hl]
        simp [List.getD_eq_getElem?_getD]
      rw [ef] at ht
      have hH : st₂.H ma = some (.list (ml.map .int)) := by rw [e5, DH_ne n1 n2 n3, hput_self]
      have hlast : (ml.map V.int)[((-1 : Int) + (ml.map V.int).length).toNat]? = some (.int r) := by
        have : ((-1 : Int) + (ml.map V.int).length).toNat = 7 := by rw [List.length_map, e6]; rfl
        rw [this, List.getElem?_map, hr7]; rfl
      refine ax_cons (ax1_ret (aw_sub (aw_freeze (aw_local e4 ⟨ma, _, rfl, hH, aw_neg (aw_int ⟨_, rfl, _, sub_lstN (by decide) (by rw [List.length_map, e6]; decide) (by decide) hlast, ?_⟩)⟩)) (by decide)))
      try dsimp only [conU, fnQ, fnM, outQ, nx, asQ, retQ, nexQ, endQ, flV]
      rw [e5, DH_del n1 n2 n3, hdel_put hm0]
      exact q r Di (g.le (by (first | lia | omega))) ht
  · intro env; rfl
  · intro env hE
    have e := hE.sc
    obtain ⟨s1, s2, s3, s4, s5, s6, s7, s8, s9⟩ := env
    dsimp only at e
    subst e
    rfl
end
end Mine
end

section
open PySem PySem.W PyProof.Rows PySem.Calls
set_option Elab.async false
set_option maxRecDepth 100000
set_option linter.unusedVariables false
namespace Mine
/-- no list in it -/
inductive NL : V → Prop
  | none : NL .none
  | bool (b : Bool) : NL (.bool b)
  | int (i : Int) : NL (.int i)
  | str (s : Str) : NL (.str s)
  | tup {l : List V} (h : ∀ u ∈ l, NL u) : NL (.tup l)
  | raw (v : Value) : NL (.raw v)
  | dct (es : List (List Int × Int)) : NL (.dct (memoOf es))
def KM.del (K : KM) (a : Addr) : KM := fun b => if b = a then Option.none else K b
theorem KM.del_self {K : KM} {a : Addr} : K.del a a = Option.none := if_pos rfl
theorem KM.del_ne {K : KM} {a b : Addr} (h : b ≠ a) : K.del a b = K b := if_neg h
theorem KM.del_of {K : KM} {a b : Addr} {o : Obj} (h : K.del a b = some o) : b ≠ a ∧ K b = some o := by
  by_cases q : b = a
  · subst q; rw [KM.del_self] at h; cases h
  · rw [KM.del_ne q] at h; exact ⟨q, h⟩
theorem nl_ints (k : List Int) : NL (V.ints k) := .tup fun u hu => by obtain ⟨i, _, rfl⟩ := List.mem_map.mp hu; exact .int i
theorem nl_pair (p : Int × Int) : NL (.pair p) := .tup fun u hu => by
  simp at hu
  rcases hu with rfl | rfl <;> exact .int _
theorem nl_node (k : Node) : NL k.toV := by
  cases k with
  | leaf v =>
    refine .tup fun u hu => ?_
    simp at hu
    rcases hu with rfl | rfl
    · exact .str _
    · exact .int _
  | br x ps =>
    refine .tup fun u hu => ?_
    simp at hu
    rcases hu with rfl | rfl
    · exact .int _
    · exact .tup fun w hw => by obtain ⟨p, _, rfl⟩ := List.mem_map.mp hw; exact nl_pair p
section
variable {w : World} {K : KM} {la : Addr} {ob : Obj}
theorem Reps.unf' {l : List V} (ih : ∀ u ∈ l, ∀ v, Rep w K u v → Rep w (K.del la) u v) : ∀ {ws : List Value}, Reps w K l ws → Reps w (K.del la) l ws := by
  induction l with
  | nil => intro ws r; rw [r.nil']; exact .nil
  | cons u l ihl =>
    intro ws r
    obtain ⟨v, ws, rfl, r1, rs⟩ := r.cons'
    exact .cons (ih u (.head _) _ r1) (ihl (fun x hx => ih x (.tail _ hx)) rs)
theorem Rep.unf (hk : K la = some ob) (hc : ob.cls = .type "list") {u : V} (n : NL u) : ∀ v, Rep w K u v → Rep w (K.del la) u v := by
  have ne : ∀ {a : Addr} {o : Obj} {s : String}, K a = some o → o.cls = .type s → s ≠ "list" → a ≠ la := by
    intro a o s e c hs
    rintro rfl
    rw [hk] at e; cases e
    rw [hc] at c; injection c with c; exact hs c.symm
  induction n with
  | none => intro v r; cases r; exact .none
  | bool b => intro v r; rw [r.bool']; exact .bool b
  | int i => intro v r; obtain ⟨_, rfl⟩ := r.int'; exact .int _ _
  | str s => intro v r; obtain ⟨_, rfl⟩ := r.str'; exact .str _ _
  | raw v' => intro v r; rw [r.raw']; exact .raw _
  | tup h ih =>
    intro v r
    obtain ⟨a, o, ws, n, rfl, e, c, d, rs⟩ := r.tup'
    exact .tup (by rw [KM.del_ne (ne e c (by decide))]; exact e) c d (Reps.unf' ih rs)
  | dct es =>
    intro v r
    cases r with | dct h1 h hc' hd he hn hx hkk hv =>
    have hh := ne h hc'.1 (by decide)
    refine .dct h1 (by rw [KM.del_ne hh]; exact h) hc' hd he hn hx (Reps.unf' (fun u hu => ?_) hkk) (Reps.unf' (fun u hu => ?_) hv)
    · obtain ⟨e, _, rfl⟩ := List.mem_map.mp hu
      intro v r
      obtain ⟨a, o, ws, n, rfl, e, c, d, rs⟩ := r.tup'
      exact .tup (by rw [KM.del_ne (ne e c (by decide))]; exact e) c d (Reps.unf' (fun u hu v r => by obtain ⟨i, _, rfl⟩ := List.mem_map.mp hu; obtain ⟨_, rfl⟩ := r.int'; exact .int _ _) rs)
    · obtain ⟨e, he, rfl⟩ := List.mem_map.mp hu
      intro v r
      unfold memoOf at he
      obtain ⟨e', _, rfl⟩ := List.mem_map.mp he
      obtain ⟨_, rfl⟩ := r.int'; exact .int _ _
theorem Reps.unf (hk : K la = some ob) (hc : ob.cls = .type "list") {l : List V} {ws : List Value} (h : ∀ u ∈ l, NL u) (r : Reps w K l ws) : Reps w (K.del la) l ws := Reps.unf' (fun u hu v r => Rep.unf hk hc (h u hu) v r) r
def NLO : AO → Prop
  | .list l => ∀ u ∈ l, NL u
  | .dictI es => ∀ e ∈ es, NL e.2
  | .dictN es => ∀ e ∈ es, NL e.2
  | .inst .. => True
  | .idict fs => ∀ nm u, fs.lookup nm = some u → NL u
def HNL (H : Addr → Option AO) : Prop := ∀ a o, H a = some o → NLO o
theorem DictRep.unf (hk : K la = some ob) (hc : ob.cls = .type "list") {κ : Type} [DecidableEq κ] {knd : HeapKind Challenge.pw_pq1073_01 w κ} {kv : κ → V} {es : List (κ × V)} {o : Obj} (hn : ∀ e ∈ es, NL e.2) (hkv : ∀ k, NL (kv k)) (x : DictRep w K knd kv es o) : DictRep w (K.del la) knd kv es o := by
  obtain ⟨e, ees, ep, xs, a, b, c, d, f, g⟩ := x
  exact ⟨e, ees, ep, xs, a, b, c, d, f.unf hk hc (fun u hu => by obtain ⟨e, _, rfl⟩ := List.mem_map.mp hu; exact hkv _), g.unf hk hc (fun u hu => by obtain ⟨e, he, rfl⟩ := List.mem_map.mp hu; exact hn e he)⟩
theorem ORep.unf (hk : K la = some ob) (hc : ob.cls = .type "list") : ∀ {a : AO} {o : Obj}, NLO a → ORep w K a o → ORep w (K.del la) a o
  | .list l, o, n, ⟨ws, m, e, r⟩ => ⟨ws, m, e, r.unf hk hc n⟩
  | .dictI es, o, n, x => DictRep.unf hk hc n nl_ints x
  | .dictN es, o, n, x => DictRep.unf hk hc n nl_node x
  | .inst .., o, n, x => x
  | .idict fs, o, n, ⟨des, m, vf, e, a, b, c⟩ => ⟨des, m, vf, e, a, fun nm u q => Rep.unf hk hc (n nm u q) _ (b nm u q), c⟩
end
theorem HNL.dh {G : Gd} {D : Dg} {H : Addr → Option AO} (h : HNL H) : HNL (DH G D H) := by
  intro a o e
  unfold DH at e
  by_cases q1 : a = G.am
  · subst q1; rw [hput_self] at e; cases e
    intro x hx
    unfold memoOf at hx
    obtain ⟨y, _, rfl⟩ := List.mem_map.mp hx; exact .int _
  · rw [hput_ne q1] at e
    by_cases q2 : a = G.ab
    · subst q2; rw [hput_self] at e; cases e
      intro x hx
      unfold bookOf at hx
      obtain ⟨y, _, rfl⟩ := List.mem_map.mp hx; exact .int _
    · rw [hput_ne q2] at e
      by_cases q3 : a = G.an
      · subst q3; rw [hput_self] at e; cases e
        intro u hu
        obtain ⟨k, _, rfl⟩ := List.mem_map.mp hu; exact nl_node k
      · rw [hput_ne q3] at e; exact h a o e
section
variable {C : Cx} {f : Fm} {st : St} {H : Addr → Option AO}
/-- a callee reads the list at la, and leaves it as it is -/
def lent (la : Addr) (l : List V) : V → V → Prop := fun u u' => u' = u ∨ (u = .raw (.ref la) ∧ u' = .lst l)
inductive Lents (la : Addr) (l : List V) : List V → List V → Prop
  | nil : Lents la l [] []
  | same {u us us'} (h : Lents la l us us') : Lents la l (u :: us) (u :: us')
  | lent {us us'} (h : Lents la l us us') : Lents la l (.raw (.ref la) :: us) (.lst l :: us')
structure OutB (Q : V → St → Prop) (st : St) (la : Addr) (l : List V) (u : V) (H : Addr → Option AO) : Prop where
  n : NL u
  h : HNL H
  q : Q u { st with H := hput H la (.list l) }
theorem Fn.useB {fv : Value} {us us' : List V} {la : Addr} {l : List V} {Q : V → St → Prop} {P K : KM} {env : Env} {A : Around} {s : Shared} {vs : List Value} {Qc : Value → Shared → Prop} {E : Value → Shared → Prop} (hla : st.H la = some (.list l)) (hus : Lents la l us us')
    (h : Fn C f.d fv us' (hdel st.H la) (OutB Q st la l)) (hA : Okd A f.d) (hX : Ext C.hb P)
    (R : Rl C.w P K env f.ow st s.heap) (r : Reps C.w K us vs) (k : ∀ u v st' K' h' tk, KGe P K K' → Rl C.w P K' env f.ow st' h' → Rep C.w K' u v → Q u st' → Qc v { s with heap := h', toks := tk }) : wpAny (MM C.w) A (call fv vs) Qc E s := by
  obtain ⟨⟨ob, ho, ws, n, rfl, rs⟩, hP, hK⟩ := R.rh.objs _ _ hla
  obtain ⟨Rf, gf⟩ := R.freeze hla ho
  obtain ⟨R', le⟩ := Rf.enter
  have rs' : Reps C.w (K.put la { cls := .type "list", data := .seq ws n }) us' vs := by
    have r' := r.mono gf.le
    clear h r
    induction hus generalizing vs with
    | nil => exact r'
    | same _ ih => cases r' with | cons a t => exact .cons a (ih t)
    | lent _ ih => cases r' with | cons a t =>
      cases a
      exact .cons (.lst (ws := ws.toList) (n := n) KM.put_self rfl (by simp) (rs.mono gf.le)) (ih t)
  refine h (shut (hdel st.H la) s.heap) _ A s vs Qc E hA.toOkc (fun a o e => le a o (hX a o e)) R' rs' ?_
  intro u v H' K' h' tk g R₁ r₁ ⟨nu, nH, q⟩
  have hk' : K' la = some { cls := .type "list", data := .seq ws n } := g.1 _ _ KM.put_self
  have sne : ∀ a, a ≠ la → shut (hdel st.H la) s.heap a = shut st.H s.heap a := fun a hne => by unfold shut; rw [hdel_ne hne]
  have sla : shut st.H s.heap la = Option.none := shut_none hla
  have gK : KGe (shut st.H s.heap) K (K'.del la) := by
    refine ⟨fun a o e => ?_, fun a o e => ?_⟩
    · have hne : a ≠ la := by rintro rfl; rw [hK] at e; cases e
      rw [KM.del_ne hne]; exact g.1 a o (by rw [KM.put_ne hne]; exact e)
    · obtain ⟨hne, e⟩ := KM.del_of e
      rcases g.2 a o e with q | q
      · rw [KM.put_ne hne] at q; exact .inl q
      · rw [sne a hne] at q; exact .inr q
  have R₂ : RH C.w (shut st.H s.heap) (K'.del la) (hput H' la (.list l)) h' := by
    refine ⟨fun a o e => ?_, fun a o e => R₁.froz a o (KM.del_of e).2, fun a o e => ?_⟩
    · have hne : a ≠ la := by rintro rfl; rw [sla] at e; cases e
      exact R₁.prot a o (by rw [sne a hne]; exact e)
    · by_cases q : a = la
      · subst q
        rw [hput_self] at e; cases e
        exact ⟨⟨_, R₁.froz _ _ hk', ws, n, rfl, rs.mono gK.le⟩, sla, KM.del_self⟩
      · rw [hput_ne q] at e
        obtain ⟨⟨ob', e1, r1⟩, e2, e3⟩ := R₁.objs a o e
        exact ⟨⟨ob', e1, r1.unf hk' rfl (nH a o e)⟩, by rw [← sne a q]; exact e2, by rw [KM.del_ne q]; exact e3⟩
  obtain ⟨R₃, g₃⟩ := R.back gK R₂
  exact k u v _ _ h' tk g₃ R₃ (Rep.unf hk' rfl nu v r₁) q
inductive FnB (C : Cx) (f : Fm) (fv : Value) (Q : V → St → Prop) (us : List V) (st : St) : Prop
  | mk (la : Addr) (l : List V) (us' : List V) (h : st.H la = some (.list l)) (hl : Lents la l us us') (q : Fn C f.d fv us' (hdel st.H la) (OutB Q st la l))
structure CallB (C : Cx) (f : Fm) (es : List Expr) (fv : Value) (Q : V → St → Prop) (u : V) (st : St) : Prop where
  e : u = .raw fv
  q : aws C f es (FnB C f fv Q) st
theorem aw_callB {x : Str} {np pos : Pos} {es : List Expr} {Q : V → St → Prop} {fv : Value} (hk : Keeps1 C fv)
    (h : aw C f (.Name x np) (CallB C f es fv Q) st) (he : ∀ env, starEach es env = plainArgs es env := by intro _; rfl) :
    aw C f (.Call (.Name x np) es [] pos) Q st := by
  intro P K env A s Qc E hA hE hX R k
  refine wpAny_Call_ofName (h P K env A s _ E hA hE hX R ?_)
  rintro u v st₁ K₁ h₁ tk₁ g₁ R₁ r ⟨rfl, h2⟩
  cases r
  show wpAny _ A (callWith pos fv [] (backTo pos (starEach es env)) []) Qc E _
  rw [he env, backTo_plain]
  refine wp_callWith hk (aws_plain h2 he P K₁ env A _ _ E hA hE hX R₁ ?_)
  rintro us vs st₂ K₂ h₂ tk₂ g₂ R₂ rs ⟨la, l, us', e1, e2, q⟩
  refine ⟨fun b o e => Rl.ext R₂ hX b o e, ?_⟩
  exact Fn.useB e1 e2 q hA hX R₂ rs fun u v st' K' h' tk g R' r' q' => k u v st' K' h' tk ((g₁.trans g₂).trans g) R' r' q'
end
end Mine
end

section
set_option Elab.async false
set_option linter.unusedVariables false
namespace Mine
def SumC (cells : List (List Int)) (t : List Int → Int) (p : List Int → Bool) : Int := ((cells.filter p).map t).sum
theorem SumC.congr {cells : List (List Int)} {t : List Int → Int} {p q : List Int → Bool} (h : ∀ c ∈ cells, p c = q c) : SumC cells t p = SumC cells t q := by
  unfold SumC; rw [List.filter_congr h]
theorem SumC.snoc {cells : List (List Int)} {t : List Int → Int} {p : List Int → Bool} {c : List Int} : SumC (cells ++ [c]) t p = SumC cells t p + if p c then t c else 0 := by
  unfold SumC
  rw [List.filter_append]
  cases h : p c <;> simp [h]
theorem SumC.none {cells : List (List Int)} {t : List Int → Int} {p : List Int → Bool} (h : ∀ c ∈ cells, p c = false) : SumC cells t p = 0 := by
  unfold SumC
  have : cells.filter p = [] := List.filter_eq_nil_iff.mpr fun c hc => by rw [h c hc]; simp
  rw [this]; rfl
theorem SumC.split {cells : List (List Int)} {t : List Int → Int} {p q r : List Int → Bool} (h : ∀ c ∈ cells, r c = (p c || q c) ∧ (p c && q c) = false) : SumC cells t r = SumC cells t p + SumC cells t q := by
  induction cells with
  | nil => rfl
  | cons c cs ih =>
    have ih := ih fun c hc => h c (.tail _ hc)
    obtain ⟨h1, h2⟩ := h c (.head _)
    unfold SumC at ih ⊢
    rw [List.filter_cons, List.filter_cons, List.filter_cons, h1]
    cases hp : p c <;> cases hq : q c
    · simpa using ih
    · simp at ih ⊢; (first | lia | omega)
    · simp at ih ⊢; (first | lia | omega)
    · rw [hp, hq] at h2; cases h2
theorem SumC.one {cells : List (List Int)} {t : List Int → Int} {p : List Int → Bool} {c : List Int} (hn : cells.Nodup) (hc : c ∈ cells) (h : ∀ d ∈ cells, p d = decide (d = c)) : SumC cells t p = t c := by
  rw [SumC.congr h]
  unfold SumC
  induction cells with
  | nil => cases hc
  | cons d ds ih =>
    rw [List.nodup_cons] at hn
    rw [List.filter_cons]
    by_cases e : d = c
    · subst e
      simp only [decide_true, if_true, List.map_cons, List.sum_cons]
      have : ds.filter (fun x => decide (x = d)) = [] := List.filter_eq_nil_iff.mpr fun x hx => by simp; rintro rfl; exact hn.1 hx
      rw [this]; simp
    · simp only [e, decide_false, if_false, Bool.false_eq_true]
      exact ih hn.2 ((List.mem_cons.mp hc).resolve_left fun e' => e e'.symm) fun d hd => h d (.tail _ hd)
def hitB (left : List Int) (x lo hi : Int) (k : List Int) (c : List Int) : Bool := decide (lo ≤ aOf c x) && decide (aOf c x ≤ hi) && decide (left.map (aOf c) = k)
structure CtI (t : List Int → Int) (left : List Int) (x lo hi : Int) (pre : List (List Int)) (es : List (List Int × Int)) : Prop where
  look : ∀ k, mlook es k = if pre.any (hitB left x lo hi k) then some (SumC pre t (hitB left x lo hi k)) else none
  keys : ∀ e ∈ es, ∃ c ∈ pre, lo ≤ aOf c x ∧ aOf c x ≤ hi ∧ e.1 = left.map (aOf c)
  len : es.length ≤ pre.length
theorem CtI.nil {t : List Int → Int} {left : List Int} {x lo hi : Int} : CtI t left x lo hi [] [] := ⟨fun k => rfl, (fun e he => by cases he), Nat.le_refl _⟩
theorem mlook_put_ne {ms : List (List Int × Int)} {k k' : List Int} {r : Int} (h : k' ≠ k) : mlook (mputL ms k r) k' = mlook ms k' := by
  have hk : ¬ k = k' := fun e => h e.symm
  unfold mputL
  split
  · unfold mlook
    induction ms with
    | nil => rfl
    | cons e ms ih =>
      rename_i q
      have ih' : ∀ (ms : List (List Int × Int)), Option.map (·.2) ((ms.map fun e => if e.1 = k then (e.1, r) else e).find? fun e => decide (e.1 = k')) = Option.map (·.2) (ms.find? fun e => decide (e.1 = k')) := by
        intro ms
        induction ms with
        | nil => rfl
        | cons e ms ih =>
          rw [List.map_cons, List.find?_cons, List.find?_cons]
          by_cases z : e.1 = k
          · have : ¬ e.1 = k' := by rw [z]; exact hk
            simp only [z, if_true, hk, decide_false]
            exact ih
          · simp only [z, if_false]
            split
            · rfl
            · exact ih
      exact ih' _
  · unfold mlook
    rw [List.find?_append]
    cases ms.find? (fun e => decide (e.1 = k')) with
    | some _ => rfl
    | none => simp [hk]
theorem hit_key {left : List Int} {x lo hi : Int} {c k : List Int} (h1 : lo ≤ aOf c x) (h2 : aOf c x ≤ hi) : hitB left x lo hi k c = decide (left.map (aOf c) = k) := by
  unfold hitB; simp [h1, h2]
theorem CtI.add {t : List Int → Int} {left : List Int} {x lo hi : Int} {pre : List (List Int)} {es : List (List Int × Int)} (I : CtI t left x lo hi pre es) {c : List Int} (h1 : lo ≤ aOf c x) (h2 : aOf c x ≤ hi) :
    CtI t left x lo hi (pre ++ [c]) (mputL es (left.map (aOf c)) ((mlook es (left.map (aOf c))).getD 0 + t c)) := by
  refine ⟨fun k => ?_, fun e he => ?_, by have := mputL_len (ms := es) (k := left.map (aOf c)) (r := (mlook es (left.map (aOf c))).getD 0 + t c); have := I.len; simp; (first | lia | omega)⟩
  · rw [SumC.snoc, List.any_append]
    simp only [List.any_cons, List.any_nil, Bool.or_false]
    rw [hit_key h1 h2]
    by_cases e : left.map (aOf c) = k
    · rw [← e, mlook_put]
      simp only [decide_true, Bool.or_true, if_true]
      rw [I.look]
      cases z : pre.any (hitB left x lo hi (left.map (aOf c))) with
      | true => simp
      | false =>
        have : SumC pre t (hitB left x lo hi (left.map (aOf c))) = 0 := SumC.none fun d hd => by
          have := List.any_eq_false.mp z d hd
          simpa using this
        simp [this]
    · rw [mlook_put_ne (fun e' => e e'.symm), I.look]
      simp [e]
  · rcases mputL_mem he with he | rfl
    · obtain ⟨d, hd, r⟩ := I.keys e he; exact ⟨d, List.mem_append_left _ hd, r⟩
    · exact ⟨c, by simp, h1, h2, rfl⟩
theorem CtI.skip {t : List Int → Int} {left : List Int} {x lo hi : Int} {pre : List (List Int)} {es : List (List Int × Int)} (I : CtI t left x lo hi pre es) {c : List Int} (h : ¬ (lo ≤ aOf c x ∧ aOf c x ≤ hi)) : CtI t left x lo hi (pre ++ [c]) es := by
  have hf : ∀ k, hitB left x lo hi k c = false := fun k => by
    unfold hitB
    by_cases q : lo ≤ aOf c x
    · have : ¬ aOf c x ≤ hi := fun q' => h ⟨q, q'⟩
      simp [this]
    · simp [q]
  refine ⟨fun k => ?_, fun e he => ?_, by have := I.len; simp; (first | lia | omega)⟩
  · rw [SumC.snoc, List.any_append, I.look]
    simp [hf]
  · obtain ⟨d, hd, r⟩ := I.keys e he; exact ⟨d, List.mem_append_left _ hd, r⟩
end Mine
end

section
open PySem PySem.W PyProof.Rows PySem.Calls
set_option Elab.async false
set_option maxRecDepth 100000
set_option linter.unusedVariables false
namespace Mine
section
variable {C : Cx} {f : Fm} {st : St} {G : Gd} {D : Dg} {H : Addr → Option AO} {d : Nat} {Q : V → (Addr → Option AO) → Prop}
theorem sub_cell {c : List Int} (hc : c.length = 3) {x : Int} (x0 : 0 ≤ x) (x3 : x < 3) : SubOk C (V.ints c) (.int x) H (.int (aOf c x)) := by
  refine sub_tup0 x0 (by (first | lia | omega)) ?_
  have : x.toNat < c.length := by (first | lia | omega)
  unfold aOf; simp [this]
theorem c_counts {cells : List (List Int)} {t : List Int → Int} {left : List Int} {x lo hi : Int} (hc : ∀ c ∈ cells, c.length = 3) (hn : cells.length ≤ 1000) (x0 : 0 ≤ x) (x3 : x < 3) (hl : ∀ v ∈ left, 0 ≤ v ∧ v < 3) (hll : left.length ≤ 3)
    (q : ∀ es, CtI t left x lo hi cells es → Q (.dct (memoOf es)) H) : Fn C 3 (.ref 213) [.lst (cells.map V.ints), .lst ((cells.map t).map .int), .lst (left.map .int), .int x, .int lo, .int hi] H Q := by
  refine fn_cell def_law_counts rfl (by kernel_rfl) (fun n => by kernel_rfl) ?_
  conv => arg 3; whnf
  conv => arg 2; arg 1; whnf
  refine ax_cons (ax1_assign (aw_dict0 fun da hda hsys => aas_local ?_))
  dsimp only at hda
  refine ax_cons (ax1_for (awI_range1 (aw_call keeps1_builtin (aw_builtin n_len rfl ⟨rfl, aws_cons (aw_cell (u := .lst (cells.map V.ints)) rfl (aws_nil (fn_len_lst (by simp; (first | lia | omega)) ⟨_, rfl, by (first | lia | omega), by simp; (first | lia | omega), ?_⟩)))⟩))))
  refine ⟨.inr ⟨⟨_, _, rfl⟩, rfl⟩, fun i st => A8 (st.m "cells" = some (.lst (cells.map V.ints))) (st.m "truths" = some (.lst ((cells.map t).map .int))) (st.m "left" = some (.lst (left.map .int))) (st.m "variable" = some (.int x)) (st.m "low" = some (.int lo)) (st.m "high" = some (.int hi)) (st.m "counts" = some (.raw (.ref da))) (∃ es, st.H = hput H da (.dictI (memoOf es)) ∧ CtI t left x lo hi (cells.take i) es), ⟨rfl, rfl, rfl, rfl, rfl, rfl, rfl, [], rfl, CtI.nil⟩, ?_, ?_⟩
  · rintro i u st₂ hi' ⟨e1, e2, e3, e4, e5, e6, e7, es, e8, I⟩
    obtain ⟨rfl, hlt⟩ := range_get hi'
    have hil : i < cells.length := by simpa using hlt
    obtain ⟨c, hci⟩ : ∃ c, cells[i]? = some c := ⟨cells[i], by simp [hil]⟩
    have etk := take_snoc hci
    have hc3 := hc c (List.mem_of_getElem? hci)
    have hH : st₂.H da = some (.dictI (memoOf es)) := by rw [e8]; exact hput_self
    have hel := I.len
    have subc : ∀ {H' : Addr → Option AO}, SubOk C (.lst (cells.map V.ints)) (.int (i : Nat)) H' (V.ints c) := sub_lst (by (first | lia | omega)) (by (first | lia | omega)) (by rw [Int.toNat_natCast, List.getElem?_map, hci]; rfl)
    refine aas_cell ?_
    refine ax_cons (ax1_if (at_cmp2 (aw_local e5 (aw_sub (aw_sub (aw_cell e1 (aw_cell rfl ⟨_, subc, aw_local e4 ⟨_, sub_cell hc3 x0 x3, _, cmp_le, fun e => ⟨fun e => (by cases e), fun _ => ax_nil (ax_nil ?_)⟩, fun e => ?_⟩⟩)) (by decide)) (by decide)))))
    · exact ⟨e1, e2, e3, e4, e5, e6, e7, es, e8, by rw [etk]; exact I.skip fun h => by have := of_decide_eq_false e; (first | lia | omega)⟩
    · have h1 : lo ≤ aOf c x := of_decide_eq_true e
      refine aw_local e6 ⟨_, cmp_le, fun e' => ?_, fun e' => ax_nil (ax_nil ?_)⟩
      · have h2 : aOf c x ≤ hi := of_decide_eq_true e'
        refine ax_cons (ax1_assign (aw_call keeps1_type (aw_builtin n_tuple rfl ⟨rfl, aws_cons (aw_comp false ?hcc (by rfl) (by simp))⟩)))
        refine awI_lst (aw_local e3 ⟨_, rfl, .inr ⟨⟨_, _, rfl⟩, rfl⟩, fun j ys st => A4 (st.m "cells" = some (.lst (cells.map V.ints))) (st.m "i" = some (.int (i : Nat))) (st.H = st₂.H) (ys = ((left.take j).map (aOf c)).map .int), ⟨e1, rfl, rfl, rfl⟩, ?_, ?_⟩)
        · rintro j u ys st₃ hj ⟨j1, j2, j3, j4⟩
          obtain ⟨v, hv, rfl⟩ := get_map hj
          obtain ⟨v0, v3⟩ := hl v (List.mem_of_getElem? hv)
          have hjl := (List.getElem?_eq_some_iff.mp hv).1
          refine aas_local ⟨by rw [j4]; simp; (first | lia | omega), ?_⟩
          refine aw_sub (aw_sub (aw_cell j1 (aw_cell j2 ⟨_, subc, aw_local rfl ⟨_, sub_cell hc3 v0 v3, j1, j2, j3, ?_⟩⟩)) (by decide)) (by decide)
          rw [j4, take_snoc hv, List.map_append, List.map_append]; rfl
        · rintro ys st₃ ⟨j1, j2, j3, j4⟩
          rw [List.length_map, List.take_length] at j4
          subst j4
          refine aws_nil ?_
          try dsimp only [conU, fnQ, fnM, outQ, nx, asQ, retQ, nexQ, endQ, flV]
          rw [j3]
          refine fn_tuple_lst (by simp; (first | lia | omega)) (aas_local ?_)
          have ekey : V.tup ((left.map (aOf c)).map .int) = V.ints (left.map (aOf c)) := rfl
          rw [ekey]
          refine ax_cons (ax1_assign (aw_BinOp (aw_meth (aw_local e7 ⟨.builtin "dict.get", _, keeps1_builtin, meth_dict hH F.slot_dict_get rfl, aws_cons (aw_local (u := V.ints (left.map (aOf c))) rfl (aws_cons (aw_int (aws_nil ?_))))⟩))))
          refine fn_dict_get hsys hH ?_
          have eget : (alook (memoOf es) (left.map (aOf c))).getD (.int 0) = .int ((mlook es (left.map (aOf c))).getD 0) := by
            rw [alook_memo]; cases mlook es (left.map (aOf c)) <;> rfl
          rw [eget]
          refine aw_sub (aw_local e2 (aw_cell rfl ⟨.int (t c), sub_lst (by (first | lia | omega)) (by (first | lia | omega)) (by rw [Int.toNat_natCast, List.getElem?_map, List.getElem?_map, hci]; rfl), _, bin_add, ?_⟩)) (by decide)
          refine aas_sub (aw_local e7 (aw_local (u := V.ints (left.map (aOf c))) rfl ⟨da, _, _, rfl, hH, set_I (by rw [memoOf_len]; simp at hel; (first | lia | omega)), ax_nil (ax_nil ⟨e1, e2, e3, e4, e5, e6, e7, mputL es (left.map (aOf c)) ((mlook es (left.map (aOf c))).getD 0 + t c), ?_, ?_⟩)⟩)) (by decide)
          · dsimp only [conU, fnQ, fnM, outQ, nx, asQ, retQ, nexQ, endQ, flV]
            rw [e8, hput_put, aput_memo]
          · rw [etk]; exact I.add h1 h2
      · exact ⟨e1, e2, e3, e4, e5, e6, e7, es, e8, by rw [etk]; exact I.skip fun h => by have := of_decide_eq_false e'; (first | lia | omega)⟩
  · rintro st₂ ⟨e1, e2, e3, e4, e5, e6, e7, es, e8, I⟩
    rw [range_len] at I
    have el : ((cells.map V.ints).length : Int).toNat = cells.length := by simp
    rw [el, List.take_length] at I
    refine ax_cons (ax1_ret (aw_freezeD (aw_local e7 ⟨da, _, rfl, hsys, by rw [e8]; exact hput_self, ?_⟩)))
    try dsimp only [conU, fnQ, fnM, outQ, nx, asQ, retQ, nexQ, endQ, flV]
    rw [e8, hdel_put hda]
    exact q es I
end
end Mine
end

section
open PySem PySem.W PyProof.Rows PySem.Calls
set_option Elab.async false
set_option maxRecDepth 100000
set_option linter.unusedVariables false
namespace Mine
def ghd : Nat → Nat
  | 0 => 1
  | k + 1 => 3 * ghd k + 1
def valM (es : List (List Int × Int)) (k : List Int) : Int := (mlook es k).getD 0
structure HandOk (T : List Int) (ns : List Node) (left : List Int) (len : Nat) (a0 : Int → Int) (es : List (List Int × Int)) (r : Int) : Prop where
  v : (nd ns r).isSome = true
  l : (left[len]?).getD 3 ≤ lv ns r
  ev : ∀ a, (∀ x ∈ left.take len, a x = a0 x) → (∀ x ∈ left.drop len, 0 ≤ a x ∧ a x ≤ topOf T x) → Ev ns r a (valM es (left.map a))
theorem HandOk.mono {T : List Int} {ns ns' : List Node} (h : Pre ns ns') {left : List Int} {len : Nat} {a0 : Int → Int} {es : List (List Int × Int)} {r : Int} (x : HandOk T ns left len a0 es r) : HandOk T ns' left len a0 es r :=
  ⟨h.some x.v, by rw [h.lv x.v]; exact x.l, fun a h1 h2 => (x.ev a h1 h2).mono h⟩
structure LeftOk (left : List Int) : Prop where
  o : left.Pairwise (· < ·)
  r : ∀ v ∈ left, 0 ≤ v ∧ v < 3
theorem LeftOk.len {left : List Int} (h : LeftOk left) : left.length ≤ 3 := by
  obtain ⟨o, r⟩ := h
  match left, o, r with
  | [], _, _ => simp
  | [_], _, _ => simp
  | [_, _], _, _ => simp
  | [_, _, _], _, _ => simp
  | a :: b :: c :: d :: l, o, r =>
    exfalso
    simp only [List.pairwise_cons] at o
    have h1 := o.1 b (by simp)
    have h2 := o.2.1 c (by simp)
    have h3 := o.2.2.1 d (by simp)
    have h4 := r a (by simp)
    have h5 := r d (by simp)
    (first | lia | omega)
theorem LeftOk.nodup {left : List Int} (h : LeftOk left) : left.Nodup := h.o.imp fun hab => by (first | lia | omega)
theorem LeftOk.notin {left : List Int} (h : LeftOk left) {len : Nat} {x : Int} (e : left[len]? = some x) : x ∉ left.take len := by
  intro m
  obtain ⟨i, hi⟩ := List.mem_iff_getElem?.mp m
  have hl := (List.getElem?_eq_some_iff.mp hi).1
  rw [List.getElem?_take] at hi
  have hil : i < len := by simp at hl; (first | lia | omega)
  rw [if_pos hil] at hi
  have := nodup_idx h.nodup hi e
  (first | lia | omega)
section
variable {C : Cx} {f : Fm} {st : St} {G : Gd} {D : Dg} {H : Addr → Option AO} {d : Nat} {Q : V → (Addr → Option AO) → Prop}
theorem c_by_hand (o : G.Ok) (hT : TopsOk G.tops) {es : List (List Int × Int)} {left : List Int} (hL : LeftOk left) (hE : ∀ a, okA G.tops a → ∃ c, mlook es (left.map a) = some c) : ∀ (m : Nat) {D : Dg} {H : Addr → Option AO} {Q : V → (Addr → Option AO) → Prop} {len : Nat} {a0 : Int → Int},
    Inv G.tops D → sizeD D + ghd m ≤ lim → len + m = left.length → okA G.tops a0 → (∀ r D', Grow G.tops D D' (ghd m) → HandOk G.tops D'.nodes left len a0 es r → Q (.int r) (DH G D' H)) → ∀ {d : Nat}, m + 6 ≤ d →
    Fn C d (.ref 218) [G.val, .dct (memoOf es), .lst (left.map .int), V.ints ((left.take len).map a0)] (DH G D H) Q := by
  intro m
  induction m with
  | zero =>
    intro D H Q len a0 I hsz hlen ha q d hd
    obtain ⟨d, rfl⟩ : ∃ e, d = e + 1 := ⟨d - 1, by (first | lia | omega)⟩
    have hl3 := hL.len
    refine fn_cell def_law_by_hand rfl (by kernel_rfl) (fun n => by kernel_rfl) ?_
    conv => arg 3; whnf
    conv => arg 2; arg 1; whnf
    have et : left.take len = left := List.take_of_length_le (by (first | lia | omega))
    obtain ⟨c, hc⟩ := hE a0 ha
    rw [et]
    refine ax_cons (ax1_if (at_cmp (aw_call keeps1_builtin (aw_builtin n_len rfl ⟨rfl, aws_cons (aw_cell (u := V.ints (left.map a0)) rfl (aws_nil (fn_len_tup (by simp; (first | lia | omega)) (aw_call keeps1_builtin (aw_builtin n_len rfl ⟨rfl, aws_cons (aw_cell (u := .lst (left.map .int)) rfl (aws_nil (fn_len_lst (by simp; (first | lia | omega)) ?_)))⟩)))))⟩))))
    refine ⟨_, cmp_eq, fun e => ?_, fun e => by simp at e⟩
    refine ax_cons (ax1_ret (aw_meth (aw_cell (u := G.val) rfl ⟨.ref 81, _, keep_leaf, meth_inst pg_leaf find_leaf ty_leaf rfl, aws_cons ?_⟩)))
    refine aw_sub (aw_cell (u := .dct (memoOf es)) rfl (aw_cell (u := V.ints (left.map a0)) rfl ⟨.int c, sub_dct (by rw [alook_memo, hc]; rfl), aws_nil ?_⟩)) (by dsimp only; (first | lia | omega))
    refine m_leaf o I (by unfold ghd at hsz; (first | lia | omega)) (by dsimp only; (first | lia | omega)) fun r D' g hr => q r D' g ⟨by rw [hr]; rfl, ?_, fun a h1 _ => ?_⟩
    · rw [List.getElem?_eq_none (by (first | lia | omega))]
      unfold lv; rw [hr]; exact Int.le_refl _
    · have : left.map a = left.map a0 := List.map_congr_left fun x hx => h1 x (by rw [et]; exact hx)
      rw [this]
      unfold valM; rw [hc]; exact .leaf hr
  | succ m ih =>
    intro D H Q len a0 I hsz hlen ha q d hd
    obtain ⟨d, rfl⟩ : ∃ e, d = e + 1 := ⟨d - 1, by (first | lia | omega)⟩
    have hl3 := hL.len
    have hgm : ghd (m + 1) = 3 * ghd m + 1 := rfl
    obtain ⟨x, hx⟩ : ∃ x, left[len]? = some x := ⟨_, List.getElem?_eq_getElem (by (first | lia | omega))⟩
    obtain ⟨x0, x3⟩ := hL.r x (List.mem_of_getElem? hx)
    obtain ⟨ht0, ht2⟩ := hT.ok x x0 x3
    have hni := hL.notin hx
    have hkl : ((left.take len).map a0).length = len := by simp; (first | lia | omega)
    refine fn_cell def_law_by_hand rfl (by kernel_rfl) (fun n => by kernel_rfl) ?_
    conv => arg 3; whnf
    conv => arg 2; arg 1; whnf
    refine ax_cons (ax1_if (at_cmp (aw_call keeps1_builtin (aw_builtin n_len rfl ⟨rfl, aws_cons (aw_cell (u := V.ints ((left.take len).map a0)) rfl (aws_nil (fn_len_tup (by simp; (first | lia | omega)) (aw_call keeps1_builtin (aw_builtin n_len rfl ⟨rfl, aws_cons (aw_cell (u := .lst (left.map .int)) rfl (aws_nil (fn_len_lst (by simp; (first | lia | omega)) ?_)))⟩)))))⟩))))
    refine ⟨_, cmp_eq, fun e => ?_, fun e => ax_nil ?_⟩
    · exfalso
      have : (((left.take len).map a0).map V.int).length = (left.map V.int).length := by
        have := eq_of_beq e
        (first | lia | omega)
      simp at this
      (first | lia | omega)
    refine ax_cons (ax1_assign (aw_sub (aw_cell (u := .lst (left.map .int)) rfl (aw_call keeps1_builtin (aw_builtin n_len rfl ⟨rfl, aws_cons (aw_cell (u := V.ints ((left.take len).map a0)) rfl (aws_nil (fn_len_tup (by simp; (first | lia | omega)) ?_)))⟩))) (by dsimp only; (first | lia | omega))))
    refine ⟨.int x, sub_lst (by (first | lia | omega)) (by simp; (first | lia | omega)) ?_, aas_local ?_⟩
    · rw [List.length_map, hkl, Int.toNat_natCast, List.getElem?_map, hx]; rfl
    refine ax_cons (ax1_comp false (awI_range1 (aw_BinOp (aw_sub (aw_tops (aw_cell (u := G.val) rfl ⟨rfl, aw_local (u := .int x) rfl ⟨_, sub_tops hT.len x0 x3, aw_int ⟨_, bin_add, topOf G.tops x + 1, rfl, by (first | lia | omega), by (first | lia | omega), .inr ⟨⟨_, _, rfl⟩, rfl⟩,
      fun i ys st => A5 (st.m "diagrams" = some G.val) (st.m "counts" = some (.dct (memoOf es))) (st.m "left" = some (.lst (left.map .int))) (st.m "key" = some (V.ints ((left.take len).map a0))) (∃ (Di : Dg) (ps : List (Int × Int)), A7 (st.H = DH G Di H) (Grow G.tops D Di (i * ghd m)) (Rise (-1) ps ((i : Int) - 1)) (ps.length = i) ((∀ n : Nat, n < i → ∃ r, pick ps n = some r ∧ HandOk G.tops Di.nodes left (len + 1) (upd a0 x n) es r)) ((∀ p ∈ ps, (nd Di.nodes p.2).isSome = true ∧ x < lv Di.nodes p.2)) (ys = ps.map V.pair)), ⟨rfl, rfl, rfl, rfl, D, [], rfl, (Grow.refl I).le (Nat.zero_le _), rfl, rfl, (fun n hn => absurd hn (Nat.not_lt_zero _)), (fun p hp => by cases hp), rfl⟩, ?_, ?_⟩⟩⟩)) (by dsimp only; (first | lia | omega))))) (by rfl) (by simp) ?_)
    · rintro i u ys st₂ hi ⟨e1, e2, e3, e4, Di, ps, e5, g, R, hpl, P, N, e6⟩
      obtain ⟨rfl, hlt⟩ := range_get hi
      have hi3 : i < 3 := by (first | lia | omega)
      have hsi := g.size
      have him : i * ghd m ≤ 2 * ghd m := Nat.mul_le_mul_right _ (by (first | lia | omega))
      refine aas_local ⟨by rw [e6]; simp; (first | lia | omega), ?_⟩
      refine aw_tup (aws_cons (aw_local rfl (aws_cons ?_)))
      refine aw_call keep_law_by_hand (aw_global g_law_by_hand ⟨rfl, aws_cons (aw_cell e1 (aws_cons (aw_cell e2 (aws_cons (aw_cell e3 (aws_cons ?_))))))⟩)
      refine bin_tupadd (us := ((left.take len).map a0).map .int) (vs := [.int (i : Nat)]) (by simp; (first | lia | omega)) (aw_cell e4 ⟨rfl, aw_tup (aws_cons (aw_local rfl (aws_nil ⟨by simp, rfl, aws_nil ?_⟩)))⟩)
      have ekey : V.tup (((left.take len).map a0).map .int ++ [.int (i : Nat)]) = V.ints ((left.take (len + 1)).map (upd a0 x (i : Nat))) := by
        unfold V.ints
        rw [take_snoc hx, List.map_append, List.map_append]
        have : (left.take len).map (upd a0 x (i : Nat)) = (left.take len).map a0 := List.map_congr_left fun y hy => upd_ne (by rintro rfl; exact hni hy)
        rw [this]
        simp [upd]
      rw [ekey]
      try dsimp only [conU, fnQ, fnM, outQ, nx, asQ, retQ, nexQ, endQ, flV]
      rw [e5]
      have ha' : okA G.tops (upd a0 x (i : Nat)) := upd_ok ha (by (first | lia | omega)) (by (first | lia | omega))
      refine ih g.inv (by (first | lia | omega)) (by (first | lia | omega)) ha' (fun r D' g' hr => ?_) (by dsimp only [compF]; (first | lia | omega))
      refine aws_nil ⟨by simp, ?_⟩
      have hlr : x < lv D'.nodes r := by
        have := hr.l
        cases z : left[len + 1]? with
        | none => rw [z] at this; simp at this; (first | lia | omega)
        | some y =>
          rw [z] at this
          have hxy : x < y := by
            obtain ⟨h1, h1'⟩ := List.getElem?_eq_some_iff.mp hx
            obtain ⟨h2, h2'⟩ := List.getElem?_eq_some_iff.mp z
            have := List.pairwise_iff_getElem.mp hL.o len (len + 1) h1 h2 (by (first | lia | omega))
            rw [h1', h2'] at this; exact this
          simp at this; (first | lia | omega)
      refine ⟨e1, e2, e3, e4, D', ps ++ [((i : Int), r)], rfl, (g.trans g').le (by rw [Nat.add_mul]; (first | lia | omega)), ?_, by simp [hpl], fun n hn => ?_, fun p hp => ?_, by rw [e6, List.map_append]; rfl⟩
      · have : (((i + 1 : Nat) : Int) - 1) = i := by (first | lia | omega)
        rw [this]; exact rise_append R (by (first | lia | omega))
      · by_cases z : n < i
        · obtain ⟨r', h1, h2⟩ := P n z
          exact ⟨r', pick_old h1, h2.mono g'.pre⟩
        · have : n = i := by (first | lia | omega)
          subst this
          exact ⟨r, pick_snoc R (by (first | lia | omega)) (Int.le_refl _), hr⟩
      · rcases List.mem_append.mp hp with hp | hp
        · obtain ⟨h1, h2⟩ := N p hp
          exact ⟨g'.pre.some h1, by rw [g'.pre.lv h1]; exact h2⟩
        · simp at hp; subst hp; exact ⟨hr.v, hlr⟩
    · rintro ys st₂ ⟨e1, e2, e3, e4, Dn, ps, e5, g, R, hpl, P, N, e6⟩
      rw [range_len] at g R hpl P
      have etn : (((topOf G.tops x + 1).toNat : Nat) : Int) - 1 = topOf G.tops x := by (first | lia | omega)
      rw [etn] at R
      subst e6
      refine aas_local ?_
      try dsimp only [conU, fnQ, fnM, outQ, nx, asQ, retQ, nexQ, endQ, flV]
      rw [e5]
      have hsi := g.size
      have him : (topOf G.tops x + 1).toNat * ghd m ≤ 3 * ghd m := Nat.mul_le_mul_right _ (by (first | lia | omega))
      refine ax_cons (ax1_ret (aw_meth (aw_cell (u := G.val) rfl ⟨.ref 88, _, keep_make, meth_inst pg_make find_make ty_make rfl, aws_cons (aw_local (u := .int x) rfl (aws_cons (aw_local (u := .lst (ps.map V.pair)) rfl (aws_nil ?_))))⟩)))
      refine (c_make o hT.len g.inv (by unfold sizeD lim at *; (first | lia | omega)) x0 x3 R (by rintro rfl; simp at hpl; (first | lia | omega)) (by (first | lia | omega)) N (fun r D' M => q r D' ((g.trans M.grow).le (by (first | lia | omega))) ⟨M.v, by rw [hx]; exact M.l, fun a h1 h2 => ?_⟩)).le (by dsimp only; (first | lia | omega))
      have hdrop : left.drop len = x :: left.drop (len + 1) := by
        obtain ⟨hlt, e⟩ := List.getElem?_eq_some_iff.mp hx
        rw [← e]; exact List.drop_eq_getElem_cons hlt
      rw [hdrop] at h2
      obtain ⟨a1, a2⟩ := h2 x (.head _)
      obtain ⟨r', p1, p2⟩ := P (a x).toNat (by (first | lia | omega))
      have eax : (((a x).toNat : Nat) : Int) = a x := by (first | lia | omega)
      rw [eax] at p1 p2
      refine M.ev a r' _ p1 (Ev.mono M.grow.pre (p2.ev a (fun y hy => ?_) fun y hy => h2 y (.tail _ hy)))
      rw [take_snoc hx] at hy
      rcases List.mem_append.mp hy with hy' | hy
      · rw [upd_ne (by rintro rfl; exact hni hy')]; exact h1 y hy'
      · simp at hy; subst hy; rw [upd_self]
    · intro env e; obtain ⟨s1, s2, s3, s4, s5, s6, s7, s8, s9⟩ := env; dsimp only at e; subst e; rfl
end
end Mine
end

section
open PySem PySem.W PyProof.Rows PySem.Calls
set_option Elab.async false
set_option maxRecDepth 100000
set_option linter.unusedVariables false
namespace Mine
structure FixOk (ns : List Node) (n x p r : Int) : Prop where
  v : (nd ns r).isSome = true
  l : lv ns n ≤ lv ns r
  vn : (nd ns n).isSome = true
  ev : ∀ a v, Ev ns n (upd a x p) v → Ev ns r a v
theorem FixOk.mono {T : List Int} {ns ns' : List Node} (w : WF T ns) (h : Pre ns ns') {n x p r : Int} (k : FixOk ns n x p r) : FixOk ns' n x p r :=
  ⟨h.some k.v, by rw [h.lv k.vn, h.lv k.v]; exact k.l, h.some k.vn, fun a v e => (k.ev a v (e.back h w k.vn)).mono h⟩
inductive FxOk (ns : List Node) (x p : Int) : List (Int × Int) → List (Int × Int) → Prop
  | nil : FxOk ns x p [] []
  | snoc {ps qs h c r} : FxOk ns x p ps qs → FixOk ns c x p r → FxOk ns x p (ps ++ [(h, c)]) (qs ++ [(h, r)])
theorem FxOk.mono {T : List Int} {ns ns' : List Node} (w : WF T ns) (h : Pre ns ns') {x p : Int} {ps qs : List (Int × Int)} (k : FxOk ns x p ps qs) : FxOk ns' x p ps qs := by
  induction k with
  | nil => exact .nil
  | snoc _ c ih => exact .snoc ih (c.mono w h)
theorem FxOk.get {ns : List Node} {x p : Int} {ps qs : List (Int × Int)} (k : FxOk ns x p ps qs) : qs.map (·.1) = ps.map (·.1) ∧ (∀ v c, pick ps v = some c → ∃ r, pick qs v = some r ∧ FixOk ns c x p r) ∧ ∀ q ∈ qs, ∃ c, (q.1, c) ∈ ps ∧ FixOk ns c x p q.2 := by
  induction k with
  | nil => exact ⟨rfl, (fun v c h => by cases h), fun q h => by cases h⟩
  | @snoc ps qs h c r k f ih =>
    obtain ⟨e, g, m⟩ := ih
    refine ⟨by simp [e], fun v c' hc => ?_, fun q hq => ?_⟩
    · have nn : pick ps v = none → pick qs v = none := by
        intro hp
        have : ∀ {l l' : List (Int × Int)}, l'.map (·.1) = l.map (·.1) → pick l v = none → pick l' v = none := by
          intro l
          induction l with
          | nil => intro l' e _; cases l' with
            | nil => rfl
            | cons _ _ => cases e
          | cons a l ih =>
            intro l' e hp
            cases l' with
            | nil => rfl
            | cons b l' =>
              simp only [List.map_cons, List.cons.injEq] at e
              obtain ⟨a1, a2⟩ := a
              obtain ⟨b1, b2⟩ := b
              dsimp only at e
              obtain ⟨rfl, e⟩ := e
              unfold pick at hp ⊢
              by_cases z : v ≤ b1
              · rw [if_pos z] at hp; cases hp
              · rw [if_neg z] at hp ⊢; exact ih e hp
        exact this e hp
      rw [pick_append] at hc
      cases hp : pick ps v with
      | some c'' =>
        rw [hp] at hc
        simp at hc; subst hc
        obtain ⟨r', h1, h2⟩ := g v _ hp
        exact ⟨r', pick_old h1, h2⟩
      | none =>
        rw [hp, Option.none_or] at hc
        rw [pick_append, nn hp, Option.none_or]
        unfold pick at hc ⊢
        by_cases z : v ≤ h
        · rw [if_pos z] at hc ⊢
          simp at hc; subst hc
          exact ⟨r, rfl, f⟩
        · rw [if_neg z] at hc; cases hc
    · rcases List.mem_append.mp hq with hq | hq
      · obtain ⟨c', h1, h2⟩ := m q hq
        exact ⟨c', List.mem_append_left _ h1, h2⟩
      · simp at hq; subst hq; exact ⟨c, by simp, f⟩
def gfx : Nat → Nat
  | 0 => 0
  | k + 1 => 3 * gfx k + 1
section
variable {C : Cx} {f : Fm} {st : St} {G : Gd} {D : Dg} {H : Addr → Option AO} {d : Nat} {Q : V → (Addr → Option AO) → Prop}
theorem c_fixed (o : G.Ok) (hT : TopsOk G.tops) {x p : Int} (x0 : 0 ≤ x) (x3 : x < 3) (p0 : 0 ≤ p) (p1 : p ≤ topOf G.tops x) : ∀ (k : Nat) {D : Dg} {H : Addr → Option AO} {Q : V → (Addr → Option AO) → Prop} {n : Int}, Inv G.tops D → sizeD D + gfx k ≤ lim → (nd D.nodes n).isSome = true → (x - lv D.nodes n).toNat ≤ k →
    (∀ r D', Grow G.tops D D' (gfx k) → FixOk D'.nodes n x p r → Q (.int r) (DH G D' H)) → ∀ {d : Nat}, k + 6 ≤ d → Fn C d (.ref 223) [G.val, .int n, .int x, .int p] (DH G D H) Q := by
  intro k
  induction k using Nat.strongRecOn with
  | _ k ih =>
    intro D H Q n I hsz hn hk q d hd
    obtain ⟨d, rfl⟩ : ∃ e, d = e + 1 := ⟨d - 1, by (first | lia | omega)⟩
    have hlen : D.nodes.length ≤ 2 ^ 20 := by unfold sizeD lim at hsz; (first | lia | omega)
    refine fn_cell def_law_fixed rfl (by kernel_rfl) (fun n => by kernel_rfl) ?_
    conv => arg 3; whnf
    conv => arg 2; arg 1; whnf
    refine ax_cons (ax1_assign (aw_meth (aw_cell (u := G.val) rfl ⟨.ref 102, _, keep_level, meth_inst pg_level find_level ty_level rfl, aws_cons (aw_local (u := .int n) rfl (aws_nil (m_level o hlen hT.len (by dsimp only; (first | lia | omega)) hn (aas_local ?_))))⟩)))
    refine ax_cons (ax1_if (at_cmp (aw_local rfl (aw_cell (u := .int x) rfl ⟨_, cmp_ge, fun e => ?_, fun e => ax_nil ?_⟩))))
    · have hge : x ≤ lv D.nodes n := of_decide_eq_true e
      obtain ⟨h1, h2, h3, h4, h5⟩ := chn_ok I.wf hn hge x3 p0 p1
      refine ax_cons (ax1_ret (aw_call keep_below (aw_global g_below ⟨rfl, aws_cons ?_⟩)))
      refine aw_call keep_parts_at (aw_global g_parts_at ⟨rfl, aws_cons (aw_cell (u := G.val) rfl (aws_cons (aw_local (u := .int n) rfl (aws_cons (aw_cell (u := .int x) rfl (aws_nil ?_))))))⟩)
      refine (c_parts_at o hlen hT.len x0 x3 hn ?_).le (by dsimp only; (first | lia | omega))
      refine aws_cons (aw_cell (u := .int p) rfl (aws_nil ((c_below h1 ?_).le (by dsimp only; (first | lia | omega)))))
      exact q _ D ((Grow.refl I).le (Nat.zero_le _)) ⟨h2, h4, hn, h5⟩
    · have hlt : lv D.nodes n < x := by have := of_decide_eq_false e; (first | lia | omega)
      obtain ⟨k', rfl⟩ : ∃ e, k = e + 1 := ⟨k - 1, by (first | lia | omega)⟩
      have hgk : gfx (k' + 1) = 3 * gfx k' + 1 := rfl
      obtain ⟨kn, hkn⟩ := Option.isSome_iff_exists.mp hn
      cases kn with
      | leaf v => unfold lv at hlt; rw [hkn] at hlt; simp at hlt; (first | lia | omega)
      | br y ps =>
        have ly : lv D.nodes n = y := by unfold lv; rw [hkn]
        have B := I.wf.ok _ _ _ hkn
        have ht := hT.ok y B.x0 B.x3
        have hpl : ps.length ≤ 3 := by have := rise_len B.rise; (first | lia | omega)
        have hasub : ∀ {H' : Addr → Option AO}, SubOk C (Node.br y ps).toV (.int 1) H' (.tup (ps.map V.pair)) := sub_tup0 (by decide) (by decide) rfl
        refine ax_cons (ax1_comp false ?hcc (by rfl) (by simp) ?_)
        refine awI_tup (aw_sub (aw_meth (aw_cell (u := G.val) rfl ⟨.ref 95, _, keep_node, meth_inst pg_node find_node ty_node rfl, aws_cons (aw_local (u := .int n) rfl (aws_nil (m_node o hlen (by dsimp only; (first | lia | omega)) hkn (aw_int ⟨_, hasub, _, rfl, .inl ⟨_, _, _, rfl⟩, fun i ys st => A4 (st.m "diagrams" = some G.val) (st.m "variable" = some (.int x)) (st.m "value" = some (.int p)) (∃ (Di : Dg) (qs : List (Int × Int)), A4 (st.H = DH G Di H) (Grow G.tops D Di (i * gfx k')) (FxOk Di.nodes x p (ps.take i) qs) (ys = qs.map V.pair)), ⟨rfl, rfl, rfl, D, [], rfl, (Grow.refl I).le (Nat.zero_le _), .nil, rfl⟩, ?_, ?_⟩))))⟩)) (by dsimp only; (first | lia | omega)))
        · rintro i u ys st₂ hi ⟨e1, e2, e3, Di, qs, e4, g, fx, e5⟩
          obtain ⟨⟨h, c⟩, hc, rfl⟩ := get_map hi
          have hil := (List.getElem?_eq_some_iff.mp hc).1
          obtain ⟨c1, c2⟩ := B.kids _ (List.mem_of_getElem? hc)
          dsimp only at c1 c2
          have hsi := g.size
          have him : i * gfx k' ≤ 2 * gfx k' := Nat.mul_le_mul_right _ (by (first | lia | omega))
          have hql : qs.length ≤ 3 := by have := congrArg List.length fx.get.1; simp at this; (first | lia | omega)
          refine aas_tup (us := [.int h, .int c]) (aas_local (aas_local ⟨by rw [e5]; simp; (first | lia | omega), ?_⟩)) rfl
          refine aw_tup (aws_cons (aw_local rfl (aws_cons ?_)))
          refine aw_call keep_law_fixed (aw_global g_law_fixed ⟨rfl, aws_cons (aw_cell e1 (aws_cons (aw_local rfl (aws_cons (aw_cell e2 (aws_cons (aw_cell e3 (aws_nil ?_))))))))⟩)
          try dsimp only [conU, fnQ, fnM, outQ, nx, asQ, retQ, nexQ, endQ, flV]
          rw [e4]
          refine ih k' (by (first | lia | omega)) g.inv (by (first | lia | omega)) (g.pre.some c1) (by rw [g.pre.lv c1]; (first | lia | omega)) (fun r D' g' fr => ?_) (by dsimp only [compF]; (first | lia | omega))
          refine aws_nil ⟨by simp, e1, e2, e3, D', qs ++ [(h, r)], rfl, (g.trans g').le (by rw [Nat.add_mul]; (first | lia | omega)), ?_, by rw [e5, List.map_append]; rfl⟩
          rw [take_snoc hc]
          exact .snoc (fx.mono g.inv.wf g'.pre) fr
        · rintro ys st₂ ⟨e1, e2, e3, Dn, qs, e4, g, fx, e5⟩
          rw [List.length_map] at g fx
          rw [List.take_length] at fx
          subst e5
          refine aas_local ?_
          try dsimp only [conU, fnQ, fnM, outQ, nx, asQ, retQ, nexQ, endQ, flV]
          rw [e4]
          have hsi := g.size
          have him : ps.length * gfx k' ≤ 3 * gfx k' := Nat.mul_le_mul_right _ hpl
          obtain ⟨f1, f2, f3⟩ := fx.get
          have hqsl : qs.length = ps.length := by have := congrArg List.length f1; simpa using this
          have hrise : Rise (-1) qs (topOf G.tops y) := by
            have : (ps.map fun c => (c.1, c.2)) = ps := by simp
            exact rise_map (g := fun c => c) f1 (by rw [this]; exact B.rise)
          have hqne : qs ≠ [] := by rintro rfl; have := B.two; simp at hqsl; (first | lia | omega)
          rw [ly]
          refine ax_cons (ax1_ret (aw_meth (aw_cell (u := G.val) rfl ⟨.ref 88, _, keep_make, meth_inst pg_make find_make ty_make rfl, aws_cons (aw_local (u := .int y) (by rw [← ly]; rfl) (aws_cons (aw_local (u := .lst (qs.map V.pair)) rfl (aws_nil ?_))))⟩)))
          refine (c_make o hT.len g.inv (by unfold sizeD lim at *; (first | lia | omega)) B.x0 B.x3 hrise hqne (by (first | lia | omega)) (fun q' hq' => ?_) (fun r D' M => q r D' ((g.trans M.grow).le (by (first | lia | omega))) ⟨M.v, ?_, (g.pre.trans M.grow.pre).some hn, fun a v hev => ?_⟩)).le (by dsimp only; (first | lia | omega))
          · obtain ⟨c, h1, h2⟩ := f3 q' hq'
            obtain ⟨c1, c2⟩ := B.kids _ h1
            dsimp only at c1 c2
            have := h2.l
            rw [g.pre.lv c1] at this
            exact ⟨h2.v, by (first | lia | omega)⟩
          · rw [(g.pre.trans M.grow.pre).lv hn, ly]; exact M.l
          · have hev' := hev.back (g.pre.trans M.grow.pre) I.wf hn
            cases hev' with
            | leaf z => rw [hkn] at z; cases z
            | br z1 z2 z3 =>
              rw [hkn] at z1; cases z1
              rw [upd_ne (by (first | lia | omega))] at z2
              obtain ⟨r', h1, h2⟩ := f2 _ _ z2
              exact M.ev a r' v h1 (Ev.mono M.grow.pre (h2.ev a v (z3.mono g.pre)))
        · intro env e; obtain ⟨s1, s2, s3, s4, s5, s6, s7, s8, s9⟩ := env; dsimp only at e; subst e; rfl
end
end Mine
end

section
open PySem PySem.W PyProof.Rows PySem.Calls
set_option Elab.async false
set_option maxRecDepth 100000
set_option linter.unusedVariables false
namespace Mine
def nonneg (a : Int → Int) : Prop := ∀ x, 0 ≤ x → x < 3 → 0 ≤ a x
structure PlOk (ns : List Node) (a b r : Int) : Prop where
  va : (nd ns a).isSome = true
  vb : (nd ns b).isSome = true
  v : (nd ns r).isSome = true
  l : lv ns a ≤ lv ns r ∨ lv ns b ≤ lv ns r
  ev : ∀ s u w, nonneg s → Ev ns a s u → Ev ns b s w → Ev ns r s (u + w)
theorem PlOk.mono {T : List Int} {ns ns' : List Node} (w : WF T ns) (h : Pre ns ns') {a b r : Int} (k : PlOk ns a b r) : PlOk ns' a b r :=
  ⟨h.some k.va, h.some k.vb, h.some k.v, by rw [h.lv k.va, h.lv k.vb, h.lv k.v]; exact k.l, fun s u x hs e1 e2 => (k.ev s u x hs (e1.back h w k.va) (e2.back h w k.vb)).mono h⟩
inductive PlcOk (ns : List Node) : List (Int × List Int) → List (Int × Int) → Prop
  | nil : PlcOk ns [] []
  | snoc {pcs ps h a b r} : PlcOk ns pcs ps → PlOk ns a b r → PlcOk ns (pcs ++ [(h, [a, b])]) (ps ++ [(h, r)])
theorem PlcOk.mono {T : List Int} {ns ns' : List Node} (w : WF T ns) (h : Pre ns ns') {pcs : List (Int × List Int)} {ps : List (Int × Int)} (k : PlcOk ns pcs ps) : PlcOk ns' pcs ps := by
  induction k with
  | nil => exact .nil
  | snoc _ c ih => exact .snoc ih (c.mono w h)
theorem PlcOk.get {ns : List Node} {pcs : List (Int × List Int)} {ps : List (Int × Int)} (x : PlcOk ns pcs ps) : ps.map (·.1) = pcs.map (·.1) ∧ ∀ (i : Nat) (p : Int × Int), ps[i]? = some p → ∃ a b, pcs[i]? = some (p.1, [a, b]) ∧ PlOk ns a b p.2 := by
  induction x with
  | nil => exact ⟨rfl, fun i p h => by simp at h⟩
  | @snoc pcs ps h a b r y z ih =>
    obtain ⟨e, g⟩ := ih
    have hl : ps.length = pcs.length := by have := congrArg List.length e; simpa using this
    refine ⟨by simp [e], fun i p hp => ?_⟩
    by_cases q : i < ps.length
    · rw [List.getElem?_append_left q] at hp
      obtain ⟨a', b', e1, e2⟩ := g i p hp
      exact ⟨a', b', by rw [List.getElem?_append_left (by (first | lia | omega))]; exact e1, e2⟩
    · rw [List.getElem?_append_right (by (first | lia | omega))] at hp
      have hi : i - ps.length = 0 := by have := (List.getElem?_eq_some_iff.mp hp).1; simp at this; (first | lia | omega)
      rw [hi] at hp
      simp only [List.getElem?_cons_zero, Option.some.injEq] at hp
      subst hp
      exact ⟨a, b, by rw [List.getElem?_append_right (by (first | lia | omega))]; rw [show i - pcs.length = 0 by (first | lia | omega)]; rfl, z⟩
theorem ev_top {T : List Int} {ns : List Node} (w : WF T ns) {n : Int} {a : Int → Int} {v x : Int} (e : Ev ns n a v) (h : lv ns n = x) (x3 : x < 3) : a x ≤ topOf T x := by
  cases e with
  | leaf q => unfold lv at h; rw [q] at h; simp at h; (first | lia | omega)
  | @br _ _ _ y m ps q p e =>
    have B := w.ok _ _ _ q
    have : lv ns n = y := by unfold lv; rw [q]
    have hxy : y = x := by (first | lia | omega)
    subst hxy
    by_cases z : a y ≤ topOf T y
    · exact z
    · rw [pick_none B.rise (by (first | lia | omega))] at p; cases p
theorem plus_made {T : List Int} {D₀ D D' : Dg} {a b x r : Int} {pcs : List (Int × List Int)} {ps : List (Int × Int)} (w₀ : WF T D₀.nodes) (pre : Pre D₀.nodes D.nodes) (x0 : 0 ≤ x) (x3 : x < 3) (hT : 0 ≤ topOf T x)
    (va : (nd D₀.nodes a).isSome = true) (vb : (nd D₀.nodes b).isSome = true) (hx : x ≤ lv D₀.nodes a ∧ x ≤ lv D₀.nodes b) (hx' : lv D₀.nodes a = x ∨ lv D₀.nodes b = x)
    (P : Pcs (fun p => [a, b].map (chn T D₀.nodes x p)) (-1) pcs (topOf T x)) (ok : PlcOk D.nodes pcs ps) (M : Made T D D' x ps r) : PlOk D'.nodes a b r := by
  have pre' := pre.trans M.grow.pre
  refine ⟨pre'.some va, pre'.some vb, M.v, ?_, fun s u w hs e1 e2 => ?_⟩
  · rw [pre'.lv va, pre'.lv vb]
    have := M.l
    rcases hx' with h | h
    · exact .inl (by (first | lia | omega))
    · exact .inr (by (first | lia | omega))
  · have e1' := e1.back pre' w₀ va
    have e2' := e2.back pre' w₀ vb
    have h1 := hs x x0 x3
    have h2 : s x ≤ topOf T x := by
      rcases hx' with h | h
      · exact ev_top w₀ e1' h x3
      · exact ev_top w₀ e2' h x3
    obtain ⟨g1, g2⟩ := ok.get
    have hr : Rise (-1) ps (topOf T x) := rise_map (g := fun _ => 0) g1 (P.rise fun _ => 0)
    obtain ⟨m, hm⟩ := rise_pick hr (v := s x) (by (first | lia | omega)) h2
    obtain ⟨i, h, e3, e4⟩ := P.at g1 hm (by (first | lia | omega))
    obtain ⟨a', b', e5, pl⟩ := g2 i _ e3
    rw [e4] at e5
    simp only [List.map_cons, List.map_nil, Option.some.injEq, Prod.mk.injEq, List.cons.injEq] at e5
    obtain ⟨-, rfl, rfl, -⟩ := e5
    refine M.ev s m _ hm (Ev.mono M.grow.pre ?_)
    have ea : s = upd s x (s x) := by funext z; unfold upd; split <;> simp [*]
    have f1 := (chn_ok w₀ va hx.1 x3 h1 h2).2.2.2.2 s u (by rw [← ea]; exact e1')
    have f2 := (chn_ok w₀ vb hx.2 x3 h1 h2).2.2.2.2 s w (by rw [← ea]; exact e2')
    exact pl.ev s u w hs (f1.mono pre) (f2.mono pre)
section
variable {C : Cx} {f : Fm} {st : St} {G : Gd} {D : Dg} {H : Addr → Option AO} {d : Nat} {Q : V → (Addr → Option AO) → Prop}
theorem lv_three {T : List Int} {ns : List Node} (w : WF T ns) {n : Int} (h : (nd ns n).isSome = true) (e : 3 ≤ lv ns n) : ∃ v, nd ns n = some (.leaf v) := by
  obtain ⟨k, hk⟩ := Option.isSome_iff_exists.mp h
  cases k with
  | leaf v => exact ⟨v, hk⟩
  | br y ps => unfold lv at e; rw [hk] at e; have := (w.ok _ _ _ hk).x3; simp at e; (first | lia | omega)
theorem c_plus (o : G.Ok) (hT : TopsOk G.tops) : ∀ (k : Nat) {D : Dg} {H : Addr → Option AO} {Q : V → (Addr → Option AO) → Prop} {a b l : Int}, Inv G.tops D → sizeD D + ghd k ≤ lim → (nd D.nodes a).isSome = true → (nd D.nodes b).isSome = true → l ≤ lv D.nodes a → l ≤ lv D.nodes b → (3 - l).toNat ≤ k →
    (∀ r D', Grow G.tops D D' (ghd k) → PlOk D'.nodes a b r → Q (.int r) (DH G D' H)) → ∀ {d : Nat}, k + 6 ≤ d → Fn C d (.ref 228) [G.val, .int a, .int b] (DH G D H) Q := by
  intro k
  induction k using Nat.strongRecOn with
  | _ k ih =>
    intro D H Q a b l I hsz va vb la lb hk q d hd
    obtain ⟨d, rfl⟩ : ∃ e, d = e + 1 := ⟨d - 1, by (first | lia | omega)⟩
    have hlen : D.nodes.length ≤ 2 ^ 20 := by unfold sizeD lim at hsz; (first | lia | omega)
    have g1 : 1 ≤ ghd k := by cases k <;> simp [ghd]
    refine fn_cell def_law_plus rfl (by kernel_rfl) (fun n => by kernel_rfl) ?_
    conv => arg 3; whnf
    conv => arg 2; arg 1; whnf
    refine ax_cons (ax1_if (at_cmp (aw_call keeps1_builtin (aw_builtin n_min rfl ⟨rfl, aws_cons (aw_meth (aw_cell (u := G.val) rfl ⟨.ref 102, _, keep_level, meth_inst pg_level find_level ty_level rfl, aws_cons (aw_local (u := .int a) rfl (aws_nil (m_level o hlen hT.len (by dsimp only; (first | lia | omega)) va ?_)))⟩))⟩))))
    refine aws_cons (aw_meth (aw_cell (u := G.val) rfl ⟨.ref 102, _, keep_level, meth_inst pg_level find_level ty_level rfl, aws_cons (aw_local (u := .int b) rfl (aws_nil (m_level o hlen hT.len (by dsimp only; (first | lia | omega)) vb ?_)))⟩))
    refine aws_nil (fn_min2 (aw_call keeps1_builtin (aw_builtin n_len rfl ⟨rfl, aws_cons (aw_tops (aw_cell (u := G.val) rfl ⟨rfl, aws_nil (fn_len_tup (by rw [List.length_map, hT.len]; decide) ?_)⟩))⟩)))
    rw [List.length_map, hT.len]
    refine ⟨_, cmp_eq, fun e => ?_, fun e => ax_nil ?_⟩
    · have e : (if lv D.nodes b < lv D.nodes a then lv D.nodes b else lv D.nodes a) = 3 := by simpa using e
      have h3 : 3 ≤ lv D.nodes a ∧ 3 ≤ lv D.nodes b := by split at e <;> (first | lia | omega)
      obtain ⟨u, hu⟩ := lv_three I.wf va h3.1
      obtain ⟨w, hw⟩ := lv_three I.wf vb h3.2
      refine ax_cons (ax1_ret (aw_meth (aw_cell (u := G.val) rfl ⟨.ref 81, _, keep_leaf, meth_inst pg_leaf find_leaf ty_leaf rfl, aws_cons ?_⟩)))
      refine aw_BinOp (aw_sub (aw_meth (aw_cell (u := G.val) rfl ⟨.ref 95, _, keep_node, meth_inst pg_node find_node ty_node rfl, aws_cons (aw_local (u := .int a) rfl (aws_nil (m_node o hlen (by dsimp only; (first | lia | omega)) hu (aw_int ⟨.int u, sub_tup0 (by decide) (by decide) rfl, ?_⟩))))⟩)) (by dsimp only; (first | lia | omega)))
      refine aw_sub (aw_meth (aw_cell (u := G.val) rfl ⟨.ref 95, _, keep_node, meth_inst pg_node find_node ty_node rfl, aws_cons (aw_local (u := .int b) rfl (aws_nil (m_node o hlen (by dsimp only; (first | lia | omega)) hw (aw_int ⟨.int w, sub_tup0 (by decide) (by decide) rfl, _, bin_add, aws_nil ?_⟩))))⟩)) (by dsimp only; (first | lia | omega))
      refine m_leaf o I (by (first | lia | omega)) (by dsimp only; (first | lia | omega)) fun r D' g hr => q r D' (g.le (by (first | lia | omega))) ⟨g.pre.some va, g.pre.some vb, by rw [hr]; rfl, .inl ?_, fun s u' w' hs e1 e2 => ?_⟩
      · rw [g.pre.lv va]
        have h1 : lv D'.nodes r = 3 := by unfold lv; rw [hr]
        have := (lv_le I.wf a).2
        (first | lia | omega)
      · have x1 := e1.det (.leaf (g.pre.nd hu))
        have x2 := e2.det (.leaf (g.pre.nd hw))
        rw [x1, x2]; exact .leaf hr
    · have e : ¬ (if lv D.nodes b < lv D.nodes a then lv D.nodes b else lv D.nodes a) = 3 := by simpa using e
      have la3 := (lv_le I.wf a).2
      have lb3 := (lv_le I.wf b).2
      obtain ⟨n0, hn0, hn3⟩ : ∃ n0 ∈ [a, b], lv D.nodes n0 < 3 := by
        by_cases z : lv D.nodes b < lv D.nodes a
        · exact ⟨b, by simp, by (first | lia | omega)⟩
        · rw [if_neg z] at e; exact ⟨a, by simp, by (first | lia | omega)⟩
      refine ax_cons (ax1_assign (aw_call keep_split (aw_global g_split ⟨rfl, aws_cons (aw_cell (u := G.val) rfl (aws_cons (aw_list (aws_cons (aw_local (u := .int a) rfl (aws_cons (aw_local (u := .int b) rfl (aws_nil ⟨by simp, aws_nil ?_⟩))))))))⟩)))
      refine (c_split o hlen hT.len I.wf hT.ok (ns := [a, b]) (.inl rfl) (by intro m hm; simp at hm; rcases hm with rfl | rfl <;> assumption) (by simp) (n0 := n0) hn0 hn3 ?_).le (by dsimp only; (first | lia | omega))
      intro x pcs x0 x3 hle ⟨nx, hnx, hX⟩ P
      refine aas_tup (us := [.int x, .lst (pcs.map pcV)]) (aas_local (aas_local ?_)) rfl
      have hxa := hle a (by simp)
      have hxb := hle b (by simp)
      have hx' : lv D.nodes a = x ∨ lv D.nodes b = x := by
        rcases List.mem_cons.mp hnx with e | hnx
        · subst e; exact .inl hX
        · simp at hnx; subst hnx; exact .inr hX
      have hlx : l ≤ x := by rcases hx' with h | h <;> (first | lia | omega)
      obtain ⟨k', rfl⟩ : ∃ e, k = e + 1 := ⟨k - 1, by (first | lia | omega)⟩
      have hgk : ghd (k' + 1) = 3 * ghd k' + 1 := rfl
      have ht1 := hT.ok x x0 x3
      have hpl : pcs.length ≤ 3 := by have := P.len; (first | lia | omega)
      refine ax_cons (ax1_ret (aw_meth (aw_cell (u := G.val) rfl ⟨.ref 88, _, keep_make, meth_inst pg_make find_make ty_make rfl, aws_cons (aw_local (u := .int x) rfl (aws_cons (aw_comp false ?hcc (by rfl) (by simp))))⟩)))
      refine awI_lst (aw_local rfl ⟨_, rfl, .inl ⟨_, _, _, rfl⟩, fun i ys st => st.m "diagrams" = some G.val ∧ ∃ (Di : Dg) (ps : List (Int × Int)), A4 (st.H = DH G Di H) (Grow G.tops D Di (i * ghd k')) (PlcOk Di.nodes (pcs.take i) ps) (ys = ps.map V.pair), ⟨rfl, D, [], rfl, (Grow.refl I).le (Nat.zero_le _), .nil, rfl⟩, ?_, ?_⟩)
      · rintro i u ys st₂ hi ⟨e1, Di, ps', e2, g, pk, e3⟩
        obtain ⟨⟨h, ms⟩, hc, rfl⟩ := get_map hi
        obtain ⟨p1, p2, p3⟩ := P.mem _ (List.mem_of_getElem? hc)
        dsimp only at p1 p2 p3
        subst p3
        have hil : i < 3 := by have := (List.getElem?_eq_some_iff.mp hc).1; (first | lia | omega)
        obtain ⟨-, av, al, -, -⟩ := chn_ok I.wf va hxa x3 (p := h) (by (first | lia | omega)) p2
        obtain ⟨-, bv, bl, -, -⟩ := chn_ok I.wf vb hxb x3 (p := h) (by (first | lia | omega)) p2
        have hps : ps'.length ≤ 3 := by have := congrArg List.length pk.get.1; simp at this; (first | lia | omega)
        refine aas_tup (us := [.int h, .lst ([chn G.tops D.nodes x h a, chn G.tops D.nodes x h b].map .int)]) (aas_local (aas_local ⟨by rw [e3]; simp; (first | lia | omega), ?_⟩)) rfl
        refine aw_tup (aws_cons (aw_local rfl (aws_cons ?_)))
        refine aw_call keep_law_plus (aw_global g_law_plus ⟨rfl, aws_cons (aw_cell e1 (aws_cons (aw_sub (aw_local rfl (aw_int ⟨_, sub_lst (by decide) (by decide) rfl, ?_⟩)) (by dsimp only [compF]; (first | lia | omega)))))⟩)
        refine aws_cons (aw_sub (aw_local rfl (aw_int ⟨_, sub_lst (by decide) (by decide) rfl, aws_nil ?_⟩)) (by dsimp only [compF]; (first | lia | omega)))
        try dsimp only [conU, fnQ, fnM, outQ, nx, asQ, retQ, nexQ, endQ, flV]
        rw [e2]
        have hsi := g.size
        have him : i * ghd k' ≤ 2 * ghd k' := Nat.mul_le_mul_right _ (by (first | lia | omega))
        refine ih k' (by (first | lia | omega)) (l := x + 1) g.inv (by (first | lia | omega)) (g.pre.some av) (g.pre.some bv) (by rw [g.pre.lv av]; (first | lia | omega)) (by rw [g.pre.lv bv]; (first | lia | omega)) (by (first | lia | omega)) ?_ (by dsimp only [compF]; (first | lia | omega))
        intro r D' g' pl
        refine aws_nil ⟨by simp, ?_⟩
        refine ⟨e1, D', ps' ++ [(h, r)], rfl, (g.trans g').le (by rw [Nat.add_mul]; (first | lia | omega)), ?_, by rw [e3, List.map_append]; rfl⟩
        rw [take_snoc hc]
        exact .snoc (pk.mono g.inv.wf g'.pre) pl
      · rintro ys st₂ ⟨e1, Dn, ps', e2, g, pk, e3⟩
        rw [List.length_map] at g pk
        rw [List.take_length] at pk
        subst e3
        refine aws_nil ?_
        try dsimp only [conU, fnQ, fnM, outQ, nx, asQ, retQ, nexQ, endQ, flV]
        rw [e2]
        have hsi := g.size
        have him : pcs.length * ghd k' ≤ 3 * ghd k' := Nat.mul_le_mul_right _ hpl
        obtain ⟨pk1, pk2⟩ := pk.get
        have hpsl : ps'.length = pcs.length := by have := congrArg List.length pk1; simpa using this
        have hpne : ps' ≠ [] := by
          rintro rfl
          have := P.ne (by (first | lia | omega))
          cases pcs with
          | nil => exact this rfl
          | cons _ _ => simp at hpsl
        refine (c_make o hT.len g.inv (by unfold sizeD lim at *; (first | lia | omega)) x0 x3 (rise_map (g := fun _ => 0) pk1 (P.rise fun _ => 0)) hpne (by (first | lia | omega)) (fun p hp => ?_) (fun r D' M => ?_)).le (by dsimp only; (first | lia | omega))
        · obtain ⟨i, hi⟩ := List.mem_iff_getElem?.mp hp
          obtain ⟨a', b', e5, pl⟩ := pk2 i p hi
          obtain ⟨p1, p2, p3⟩ := P.mem _ (List.mem_of_getElem? e5)
          dsimp only at p1 p2 p3
          simp only [List.map_cons, List.map_nil, List.cons.injEq, and_true] at p3
          obtain ⟨rfl, rfl⟩ := p3
          refine ⟨pl.v, ?_⟩
          obtain ⟨-, av, al, -, -⟩ := chn_ok I.wf va hxa x3 (p := p.1) (by (first | lia | omega)) p2
          obtain ⟨-, bv, bl, -, -⟩ := chn_ok I.wf vb hxb x3 (p := p.1) (by (first | lia | omega)) p2
          rcases pl.l with h | h
          · rw [g.pre.lv av] at h; (first | lia | omega)
          · rw [g.pre.lv bv] at h; (first | lia | omega)
        · exact q r D' ((g.trans M.grow).le (by (first | lia | omega))) (plus_made I.wf g.pre x0 x3 ht1.1 va vb ⟨hxa, hxb⟩ hx' P pk M)
end
end Mine
end

section
set_option Elab.async false
set_option linter.unusedVariables false
namespace Mine
structure CellsOk (T : List Int) (cells : List (List Int)) : Prop where
  len3 : ∀ c ∈ cells, c.length = 3
  n : cells.length ≤ 27
  all : ∀ a, okA T a → ∃ c ∈ cells, ∀ x, 0 ≤ x → x < 3 → aOf c x = a x
  val : ∀ c ∈ cells, okA T (aOf c)
def agB (L : List Int) (a : Int → Int) (c : List Int) : Bool := L.all fun y => decide (aOf c y = a y)
theorem agB_iff {L : List Int} {a : Int → Int} {c : List Int} : agB L a c = true ↔ ∀ y ∈ L, aOf c y = a y := by unfold agB; simp
theorem map_iff {L : List Int} {a b : Int → Int} : L.map a = L.map b ↔ ∀ y ∈ L, a y = b y := by
  induction L with
  | nil => simp
  | cons x L ih => simp [ih]
def S (cells : List (List Int)) (t : List Int → Int) (L : List Int) (a : Int → Int) : Int := SumC cells t (agB L a)
theorem valM_sum {t : List Int → Int} {left : List Int} {x lo hi : Int} {cells : List (List Int)} {es : List (List Int × Int)} (I : CtI t left x lo hi cells es) (k : List Int) : valM es k = SumC cells t (hitB left x lo hi k) := by
  unfold valM
  rw [I.look]
  cases z : cells.any (hitB left x lo hi k) with
  | true => rfl
  | false =>
    rw [SumC.none fun c hc => by have := List.any_eq_false.mp z c hc; simpa using this]; rfl
theorem hit_iff {left : List Int} {x lo hi : Int} {a : Int → Int} {c : List Int} : hitB left x lo hi (left.map a) c = (decide (lo ≤ aOf c x ∧ aOf c x ≤ hi) && agB left a c) := by
  rw [Bool.eq_iff_iff]
  unfold hitB
  simp only [Bool.and_eq_true, decide_eq_true_eq, agB_iff, map_iff]
theorem look_some {T : List Int} {t : List Int → Int} {left : List Int} {x lo hi : Int} {cells : List (List Int)} {es : List (List Int × Int)} (K : CellsOk T cells) (I : CtI t left x lo hi cells es) (hL : LeftOk left) (hx : x ∉ left ∨ (lo = 0 ∧ hi = topOf T x)) (x0 : 0 ≤ x) (x3 : x < 3) (h0 : 0 ≤ lo) (h1 : lo ≤ hi) (h2 : hi ≤ topOf T x) :
    ∀ a, okA T a → ∃ c, mlook es (left.map a) = some c := by
  intro a ha
  have key : ∃ b, okA T b ∧ (∀ y ∈ left, b y = a y) ∧ lo ≤ b x ∧ b x ≤ hi := by
    rcases hx with hx | ⟨rfl, rfl⟩
    · exact ⟨upd a x lo, upd_ok ha h0 (by (first | lia | omega)), fun y hy => upd_ne (by rintro rfl; exact hx hy), by rw [upd_self]; exact Int.le_refl _, by rw [upd_self]; exact h1⟩
    · exact ⟨a, ha, fun _ _ => rfl, (ha x x0 x3).1, (ha x x0 x3).2⟩
  obtain ⟨b, hb, hby, hb1, hb2⟩ := key
  obtain ⟨c, hc, hcx⟩ := K.all b hb
  rw [I.look]
  have : cells.any (hitB left x lo hi (left.map a)) = true := List.any_eq_true.mpr ⟨c, hc, by
    rw [hit_iff]
    simp only [Bool.and_eq_true, decide_eq_true_eq, agB_iff]
    refine ⟨by rw [hcx x x0 x3]; exact ⟨hb1, hb2⟩, fun y hy => ?_⟩
    obtain ⟨y0, y3⟩ := hL.r y hy
    rw [hcx y y0 y3, hby y hy]⟩
  rw [this]
  exact ⟨_, rfl⟩
theorem keys_ok {T : List Int} {t : List Int → Int} {left : List Int} {x lo hi : Int} {cells : List (List Int)} {es : List (List Int × Int)} (K : CellsOk T cells) (I : CtI t left x lo hi cells es) : ∀ e ∈ es, ∃ a, okA T a ∧ e.1 = left.map a := fun e he => by
  obtain ⟨c, hc, _, _, h⟩ := I.keys e he
  exact ⟨aOf c, K.val c hc, h⟩
/-- taking a variable away -/
structure Away (L L' : List Int) (v : Int) : Prop where
  m : ∀ y, y ∈ L ↔ y = v ∨ y ∈ L'
  n : v ∉ L'
theorem S_fix {cells : List (List Int)} {t : List Int → Int} {L L' : List Int} {v : Int} (W : Away L L' v) {a : Int → Int} {i : Int} : S cells t L (upd a v i) = SumC cells t (fun c => decide (i ≤ aOf c v ∧ aOf c v ≤ i) && agB L' a c) := by
  unfold S
  refine SumC.congr fun c hc => ?_
  rw [Bool.eq_iff_iff]
  simp only [Bool.and_eq_true, decide_eq_true_eq, agB_iff]
  constructor
  · intro h
    have h1 := h v ((W.m v).mpr (.inl rfl))
    rw [upd_self] at h1
    refine ⟨by (first | lia | omega), fun y hy => ?_⟩
    have := h y ((W.m y).mpr (.inr hy))
    rwa [upd_ne (by rintro rfl; exact W.n hy)] at this
  · rintro ⟨h1, h2⟩ y hy
    rcases (W.m y).mp hy with rfl | hy
    · rw [upd_self]; (first | lia | omega)
    · rw [upd_ne (by rintro rfl; exact W.n hy)]; exact h2 y hy
def Sp (cells : List (List Int)) (t : List Int → Int) (L' : List Int) (v : Int) (i : Int) (a : Int → Int) : Int := SumC cells t (fun c => decide (aOf c v < i) && agB L' a c)
theorem Sp_zero {T : List Int} {cells : List (List Int)} {t : List Int → Int} {L' : List Int} {v : Int} {a : Int → Int} (K : CellsOk T cells) (v0 : 0 ≤ v) (v3 : v < 3) : Sp cells t L' v 0 a = 0 := by
  unfold Sp
  refine SumC.none fun c hc => ?_
  have := (K.val c hc v v0 v3).1
  have : ¬ aOf c v < 0 := by (first | lia | omega)
  simp [this]
theorem Sp_succ {cells : List (List Int)} {t : List Int → Int} {L' : List Int} {v i : Int} {a : Int → Int} : Sp cells t L' v (i + 1) a = Sp cells t L' v i a + SumC cells t (fun c => decide (i ≤ aOf c v ∧ aOf c v ≤ i) && agB L' a c) := by
  unfold Sp
  refine SumC.split fun c hc => ?_
  cases agB L' a c with
  | false => simp
  | true =>
    simp only [Bool.and_true]
    constructor
    · rw [Bool.eq_iff_iff]; simp only [Bool.or_eq_true, decide_eq_true_eq]; (first | lia | omega)
    · rw [Bool.and_eq_false_iff]; simp only [decide_eq_false_iff_not]; (first | lia | omega)
theorem Sp_top {T : List Int} {cells : List (List Int)} {t : List Int → Int} {L' : List Int} {v : Int} {a : Int → Int} (K : CellsOk T cells) (v0 : 0 ≤ v) (v3 : v < 3) : Sp cells t L' v (topOf T v + 1) a = S cells t L' a := by
  unfold Sp S
  refine SumC.congr fun c hc => ?_
  have := (K.val c hc v v0 v3).2
  have : aOf c v < topOf T v + 1 := by (first | lia | omega)
  simp [this]
theorem val_one {t : List Int → Int} {L L' : List Int} {v i : Int} {cells : List (List Int)} {es : List (List Int × Int)} (W : Away L L' v) (I : CtI t L' v i i cells es) (a : Int → Int) : valM es (L'.map a) = S cells t L (upd a v i) := by
  rw [valM_sum I, S_fix W]
  exact SumC.congr fun c _ => hit_iff
theorem val_all {T : List Int} {t : List Int → Int} {L' : List Int} {v : Int} {cells : List (List Int)} {es : List (List Int × Int)} (K : CellsOk T cells) (v0 : 0 ≤ v) (v3 : v < 3) (I : CtI t L' v 0 (topOf T v) cells es) (a : Int → Int) : valM es (L'.map a) = S cells t L' a := by
  rw [valM_sum I]
  unfold S
  refine SumC.congr fun c hc => ?_
  rw [hit_iff]
  have := K.val c hc v v0 v3
  simp [this]
theorem S_nil {cells : List (List Int)} {t : List Int → Int} {a : Int → Int} : S cells t [] a = (cells.map t).sum := by
  unfold S SumC
  have : cells.filter (agB [] a) = cells := List.filter_eq_self.mpr fun c _ => rfl
  rw [this]
theorem S_full {T : List Int} {cells : List (List Int)} {t : List Int → Int} {a : Int → Int} (K : CellsOk T cells) (hn : cells.Nodup) {c : List Int} (hc : c ∈ cells) (h : ∀ x, 0 ≤ x → x < 3 → aOf c x = a x) : S cells t [0, 1, 2] a = t c := by
  unfold S
  refine SumC.one hn hc fun d hd => ?_
  rw [Bool.eq_iff_iff, agB_iff, decide_eq_true_eq]
  constructor
  · intro g
    have l1 := K.len3 c hc
    have l2 := K.len3 d hd
    have g0 := (g 0 (by simp)).trans (h 0 (by decide) (by decide)).symm
    have g1 := (g 1 (by simp)).trans (h 1 (by decide) (by decide)).symm
    have g2 := (g 2 (by simp)).trans (h 2 (by decide) (by decide)).symm
    obtain ⟨c0, c1, c2, rfl⟩ := len3 l1
    obtain ⟨d0, d1, d2, rfl⟩ := len3 l2
    simp [aOf] at g0 g1 g2
    rw [g0, g1]
    have : d2 = c2 := g2
    rw [this]
  · rintro rfl y hy
    simp at hy
    rcases hy with rfl | rfl | rfl <;> exact h _ (by decide) (by decide)
end Mine
end

section
open PySem PySem.W PyProof.Rows PySem.Calls
set_option Elab.async false
set_option maxRecDepth 100000
set_option linter.unusedVariables false
namespace Mine
theorem aOf_set {vs : List Int} (hl : vs.length = 3) {y v z : Int} (y0 : 0 ≤ y) (y3 : y < 3) (z0 : 0 ≤ z) : aOf (vs.set y.toNat v) z = if z = y then v else aOf vs z := by
  unfold aOf
  simp only [List.getD_eq_getElem?_getD]
  rw [List.getElem?_set]
  by_cases e : z = y
  · subst e
    have : z.toNat < vs.length := by (first | lia | omega)
    simp [this]
  · have : ¬ y.toNat = z.toNat := by (first | lia | omega)
    simp [e, this]
theorem ghd_le {m : Nat} (h : m ≤ 3) : ghd m ≤ 40 := by
  have : m = 0 ∨ m = 1 ∨ m = 2 ∨ m = 3 := by (first | lia | omega)
  rcases this with rfl | rfl | rfl | rfl <;> decide
section
variable {C : Cx} {f : Fm} {st : St} {G : Gd} {D : Dg} {H : Addr → Option AO} {d : Nat} {Q : V → (Addr → Option AO) → Prop}
theorem m_by_hand (o : G.Ok) (hT : TopsOk G.tops) {es : List (List Int × Int)} {left : List Int} (hL : LeftOk left) (hE : ∀ a, okA G.tops a → ∃ c, mlook es (left.map a) = some c) (I : Inv G.tops D) (hsz : sizeD D + 40 ≤ lim) (hd : 10 ≤ d)
    (q : ∀ r D', Grow G.tops D D' 40 → HandOk G.tops D'.nodes left 0 zeroA es r → Q (.int r) (DH G D' H)) : Fn C d (.ref 218) [G.val, .dct (memoOf es), .lst (left.map .int), .tup []] (DH G D H) Q := by
  have h3 := hL.len
  have hg := ghd_le h3
  have hz : okA G.tops zeroA := fun x x0 x3 => ⟨Int.le_refl _, (hT.ok x x0 x3).1⟩
  exact c_by_hand o hT hL hE left.length I (by (first | lia | omega)) (len := 0) (a0 := zeroA) (by (first | lia | omega)) hz (fun r D' g h => q r D' (g.le hg) h) (by (first | lia | omega))
theorem same_hand {T : List Int} {ns : List Node} {left : List Int} {es : List (List Int × Int)} {n r : Int} (hT : TopsOk T) (w : WF T ns) (hL : LeftOk left) (vn : (nd ns n).isSome = true) (h : HandOk T ns left 0 zeroA es r) (e : ∀ a, okA T a → Ev ns n a (valM es (left.map a))) : n = r := by
  refine canon w (fun x x0 x3 => (hT.ok x x0 x3).1) _ n r rfl vn h.v fun a v w' ha e1 e2 => ?_
  have e3 := h.ev a (fun x hx => by simp at hx) (fun x hx => by
    rw [List.drop_zero] at hx
    obtain ⟨x0, x3⟩ := hL.r x hx
    exact ha x x0 x3)
  exact (e1.det (e a ha)).trans (e3.det e2)
structure TlI (G : Gd) (D : Dg) (H : Addr → Option AO) (es : List (List Int × Int)) (left : List Int) (n : Int) (st : St) : Prop where
  md : st.m "diagrams" = some G.val
  mn : st.m "number" = some (.int n)
  ml : st.m "left" = some (.lst (left.map .int))
  mc : st.m "counts" = some (.dct (memoOf es))
theorem c_is_told (o : G.Ok) (hT : TopsOk G.tops) (I : Inv G.tops D) (hsz : sizeD D + 40 ≤ lim) {n : Int} (vn : (nd D.nodes n).isSome = true) {es : List (List Int × Int)} {left : List Int} (hL : LeftOk left) (hE : ∀ a, okA G.tops a → ∃ c, mlook es (left.map a) = some c) (hK : ∀ e ∈ es, ∃ a, okA G.tops a ∧ e.1 = left.map a)
    (hev : ∀ a, nonneg a → (∀ x ∈ left, 0 ≤ a x ∧ a x ≤ topOf G.tops x) → Ev D.nodes n a (valM es (left.map a))) (q : ∀ D', Grow G.tops D D' 40 → Q (.bool true) (DH G D' H)) :
    Fn C 11 (.ref 233) [G.val, .int n, .lst (left.map .int), .dct (memoOf es)] (DH G D H) Q := by
  have hlen : D.nodes.length ≤ 2 ^ 20 := by unfold sizeD lim at hsz; (first | lia | omega)
  have h3 := hL.len
  refine fn_plain def_law_is_told rfl (by kernel_rfl) ?_
  conv => arg 3; whnf
  conv => arg 2; arg 1; whnf
  refine ax_cons (ax1_for (awI_dct (aw_local (u := .dct (memoOf es)) rfl ⟨memoOf es, rfl, .inr ⟨⟨_, _, rfl⟩, rfl⟩, fun i st => TlI G D H es left n st ∧ st.H = DH G D H, ⟨⟨rfl, rfl, rfl, rfl⟩, rfl⟩, ?_, ?_⟩)))
  · rintro i u st₂ hi ⟨⟨e1, e2, e3, e4⟩, e5⟩
    obtain ⟨e, he, rfl⟩ := get_map hi
    unfold memoOf at he
    rw [List.getElem?_map, Option.map_eq_some_iff] at he
    obtain ⟨e', he', rfl⟩ := he
    obtain ⟨a0, ha0, hk⟩ := hK e' (List.mem_of_getElem? he')
    try dsimp only [conU, fnQ, fnM, outQ, nx, asQ, retQ, nexQ, endQ, flV]
    rw [hk]
    obtain ⟨c, hc⟩ := hE a0 ha0
    have hnd := hL.nodup
    refine aas_local ?_
    refine ax_cons (ax1_comp true ?hcc (by rfl) (by simp) ?_)
    refine awI_tup (aw_tops (aw_local e1 ⟨rfl, _, rfl, .inr ⟨⟨_, _, rfl⟩, rfl⟩, fun j ys st => st.H = DH G D H ∧ ys = ((G.tops.take j).map (· + 1)).map .int, ⟨e5, rfl⟩, ?_, ?_⟩))
    · rintro j u ys st₃ hj ⟨j1, j2⟩
      obtain ⟨tp, htp, rfl⟩ := get_map hj
      have hjl := (List.getElem?_eq_some_iff.mp htp).1
      have ht3 := hT.len
      refine aas_local ⟨by rw [j2]; simp; (first | lia | omega), ?_⟩
      refine aw_BinOp (aw_local rfl (aw_int ⟨_, bin_add, j1, ?_⟩))
      rw [j2, take_snoc htp, List.map_append, List.map_append]; rfl
    · rintro ys st₃ ⟨j1, j2⟩
      rw [List.length_map, List.take_length] at j2
      subst j2
      intro va hva
      dsimp only at hva
      rw [j1] at hva
      refine aas_local ?_
      try dsimp only [conU, fnQ, fnM, outQ, nx, asQ, retQ, nexQ, endQ, flV]
      rw [j1]
      refine ax_cons (ax1_for (awI_range1 (aw_call keeps1_builtin (aw_builtin n_len rfl ⟨rfl, aws_cons (aw_local e3 (aws_nil (fn_len_lst (by simp; (first | lia | omega)) ⟨_, rfl, by (first | lia | omega), by simp; (first | lia | omega), ?_⟩)))⟩))))
      refine ⟨.inr ⟨⟨_, _, rfl⟩, rfl⟩, fun k st => A4 (TlI G D H es left n st) (st.m "key" = some (V.ints (left.map a0))) (st.m "values" = some (.raw (.ref va))) (∃ vs : List Int, A4 (st.H = hput (DH G D H) va (.list (vs.map .int))) (vs.length = 3) ((∀ y, 0 ≤ y → y < 3 → 0 ≤ aOf vs y)) ((∀ y ∈ left.take k, aOf vs y = a0 y))),
        ⟨⟨e1, e2, e3, e4⟩, rfl, rfl, G.tops.map (· + 1), rfl, by rw [List.length_map]; exact hT.len, fun y y0 y3 => ?_, fun y hy => by simp at hy⟩, ?_, ?_⟩
      · have := (hT.ok y y0 y3).1
        have h2 : y.toNat < G.tops.length := by rw [hT.len]; (first | lia | omega)
        unfold topOf at this
        simp [h2] at this
        unfold aOf
        simp [h2]; (first | lia | omega)
      · rintro k u st₄ hk' ⟨⟨i1, i2, i3, i4⟩, i5, i6, vs, i7, i8, i9, i10⟩
        obtain ⟨rfl, hlt⟩ := range_get hk'
        have hkl : k < left.length := by simpa using hlt
        obtain ⟨y, hy⟩ : ∃ y, left[k]? = some y := ⟨left[k], by simp [hkl]⟩
        obtain ⟨y0, y3⟩ := hL.r y (List.mem_of_getElem? hy)
        have hH : st₄.H va = some (.list (vs.map .int)) := by rw [i7]; exact hput_self
        have hni := hL.notin hy
        refine aas_local ?_
        refine ax_cons (ax1_assign (aw_sub (aw_local i5 (aw_local rfl ⟨.int (a0 y), sub_tup0 (by (first | lia | omega)) (by (first | lia | omega)) (by rw [Int.toNat_natCast, List.getElem?_map, List.getElem?_map, hy]; rfl), ?_⟩)) (by decide)))
        refine aas_sub (aw_local i6 (aw_sub (aw_local i3 (aw_local rfl ⟨.int y, sub_lst (by (first | lia | omega)) (by (first | lia | omega)) (by rw [Int.toNat_natCast, List.getElem?_map, hy]; rfl), ?_⟩)) (by decide))) (by decide)
        refine ⟨va, _, _, rfl, hH, set_list y0 (by (first | lia | omega)) (by rw [List.length_map]; (first | lia | omega)), ax_nil ⟨⟨i1, i2, i3, i4⟩, i5, i6, vs.set y.toNat (a0 y), ?_, by simp [i8], fun z z0 z3 => ?_, fun z hz => ?_⟩⟩
        · dsimp only [conU, fnQ, fnM, outQ, nx, asQ, retQ, nexQ, endQ, flV]
          rw [i7, hput_put, List.map_set]
        · rw [aOf_set i8 y0 y3 z0]
          split
          · exact (ha0 y y0 y3).1
          · exact i9 z z0 z3
        · have z0 : 0 ≤ z := (hL.r z (List.mem_of_mem_take hz)).1
          rw [aOf_set i8 y0 y3 z0]
          rw [take_snoc hy] at hz
          rcases List.mem_append.mp hz with hz' | hz
          · rw [if_neg (by rintro rfl; exact hni hz')]; exact i10 z hz'
          · simp at hz; subst hz; rw [if_pos rfl]
      · rintro st₄ ⟨⟨i1, i2, i3, i4⟩, i5, i6, vs, i7, i8, i9, i10⟩
        rw [range_len] at i10
        have el : ((left.map V.int).length : Int).toNat = left.length := by simp
        rw [el, List.take_length] at i10
        have hH : st₄.H va = some (.list (vs.map .int)) := by rw [i7]; exact hput_self
        have emap : left.map (aOf vs) = left.map a0 := List.map_congr_left i10
        have hev' := hev (aOf vs) i9 (fun x hx => by rw [i10 x hx]; obtain ⟨x0, x3⟩ := hL.r x hx; exact ha0 x x0 x3)
        rw [emap] at hev'
        have eval : valM es (left.map a0) = c := by unfold valM; rw [hc]; rfl
        rw [eval] at hev'
        refine ax_cons (ax1_if (at_cmp (aw_call keep_value_at (aw_global g_value_at ⟨rfl, aws_cons (aw_local i1 (aws_cons (aw_local i2 (aws_cons (aw_freeze (aw_local i6 ⟨va, _, rfl, hH, aws_nil ?_⟩))))))⟩))))
        try dsimp only [conU, fnQ, fnM, outQ, nx, asQ, retQ, nexQ, endQ, flV]
        rw [i7, hdel_put hva]
        refine (c_value_at o hlen I.wf hev' (fun x x0 x3 => ?_) ?_).le (by decide)
        · have : x.toNat < vs.length := by (first | lia | omega)
          unfold aOf; simp [this]
        · refine aw_sub (aw_local i4 (aw_local i5 ⟨.int c, sub_dct (by rw [alook_memo, hc]; rfl), _, cmp_ne, fun e => ?_, fun e => ax_nil (ax_nil ⟨⟨i1, i2, i3, i4⟩, rfl⟩)⟩)) (by decide)
          simp at e
    · intro env e; obtain ⟨s1, s2, s3, s4, s5, s6, s7, s8, s9⟩ := env; dsimp only at e; subst e; rfl
  · rintro st₂ ⟨⟨e1, e2, e3, e4⟩, e5⟩
    refine ax_cons (ax1_ret (aw_cmp (aw_local e2 (aw_call keep_law_by_hand (aw_global g_law_by_hand ⟨rfl, aws_cons (aw_local e1 (aws_cons (aw_local e4 (aws_cons (aw_local e3 (aws_cons (aw_tup (aws_nil ⟨by simp, aws_nil ?_⟩))))))))⟩)))))
    try dsimp only [conU, fnQ, fnM, outQ, nx, asQ, retQ, nexQ, endQ, flV]
    rw [e5]
    refine m_by_hand o hT hL hE I hsz (by decide) fun r D' g h => ⟨_, cmp_eq, ?_⟩
    have hnr : n = r := same_hand hT g.inv.wf hL (g.pre.some vn) h fun a ha => (hev a (fun x x0 x3 => (ha x x0 x3).1) fun x hx => by
      obtain ⟨x0, x3⟩ := hL.r x hx
      exact ha x x0 x3).mono g.pre
    rw [hnr]
    simp only [beq_self_eq_true]
    exact q D' g
end
end Mine
end

section
open PySem PySem.W PyProof.Rows PySem.Calls
set_option Elab.async false
set_option maxRecDepth 100000
set_option linter.unusedVariables false
namespace Mine
section
variable {C : Cx} {f : Fm} {st : St} {G : Gd} {D : Dg} {H : Addr → Option AO} {d : Nat} {Q : V → (Addr → Option AO) → Prop}
structure CaM (G : Gd) (cells : List (List Int)) (t : List Int → Int) (la : Addr) (st : St) : Prop where
  md : st.m "diagrams" = some G.val
  mc : st.m "cells" = some (.lst (cells.map V.ints))
  mt : st.m "truths" = some (.lst ((cells.map t).map .int))
  ml : st.m "left" = some (.raw (.ref la))
def onL (T : List Int) (L : List Int) (a : Int → Int) : Prop := ∀ x ∈ L, 0 ≤ a x ∧ a x ≤ topOf T x
theorem erase_ok {L : List Int} {v : Int} (h : LeftOk L) (m : v ∈ L) : LeftOk (L.erase v) ∧ Away L (L.erase v) v := by
  refine ⟨⟨h.o.sublist List.erase_sublist, fun x hx => h.r x (List.mem_of_mem_erase hx)⟩, fun y => ?_, fun hm => ?_⟩
  · rw [h.nodup.mem_erase_iff]
    by_cases e : y = v
    · subst e; simp [m]
    · simp [e]
  · rw [h.nodup.mem_erase_iff] at hm; exact hm.1 rfl
theorem c_counted_away (o : G.Ok) (hT : TopsOk G.tops) (hNL : HNL H) (I : Inv G.tops D) (hsz : sizeD D + 3000 ≤ lim) {cells : List (List Int)} {t : List Int → Int} (K : CellsOk G.tops cells) {n : Int} {seq : List Int} (hseq : seq.Perm [0, 1, 2]) (vn : (nd D.nodes n).isSome = true)
    (hev : ∀ a, nonneg a → onL G.tops [0, 1, 2] a → Ev D.nodes n a (S cells t [0, 1, 2] a)) (q : ∀ D', Grow G.tops D D' 3000 → Q (.bool true) (DH G D' H)) :
    Fn C 14 (.ref 240) [G.val, .lst (cells.map V.ints), .lst ((cells.map t).map .int), .int n, .tup (seq.map .int)] (DH G D H) Q := by
  have hn27 := K.n
  refine fn_plain def_law_counted_away rfl (by kernel_rfl) ?_
  conv => arg 3; whnf
  conv => arg 2; arg 1; whnf
  refine ax_cons (ax1_assign (aw_listH (aws_cons (aw_int (aws_cons (aw_int (aws_cons (aw_int (aws_nil ⟨by simp, fun la hla => aas_local ?_⟩)))))))))
  dsimp only at hla
  obtain ⟨n1, n2, n3, hl0⟩ := DH_none o hla
  have hdl : ∀ (Di : Dg) (x : AO), hdel (DH G Di (hput H la x)) la = DH G Di H := fun Di x => by rw [DH_del n1 n2 n3, hdel_put hl0]
  have hpt : ∀ (Di : Dg) (x : AO), hput (DH G Di H) la x = DH G Di (hput H la x) := fun Di x => DH_put n1 n2 n3
  have hget : ∀ (Di : Dg) (x : AO), DH G Di (hput H la x) la = some x := fun Di x => by rw [DH_ne n1 n2 n3, hput_self]
  try dsimp only [conU, fnQ, fnM, outQ, nx, asQ, retQ, nexQ, endQ, flV]
  rw [hpt]
  refine ax_cons (ax1_for (awI_tup (aw_local (u := .tup (seq.map .int)) rfl ⟨_, rfl, .inr ⟨⟨_, _, rfl⟩, rfl⟩, fun i st => CaM G cells t la st ∧ ∃ (Di : Dg) (n : Int) (L : List Int), A7 (st.m "number" = some (.int n)) (st.H = DH G Di (hput H la (.list (L.map .int)))) (Grow G.tops D Di (i * 600)) (LeftOk L) (L.Perm (seq.drop i)) ((nd Di.nodes n).isSome = true) (∀ a, nonneg a → onL G.tops L a → Ev Di.nodes n a (S cells t L a)), ⟨⟨rfl, rfl, rfl, rfl⟩, D, n, [0, 1, 2], rfl, rfl, (Grow.refl I).le (Nat.zero_le _), ⟨by decide, by decide⟩, hseq.symm, vn, hev⟩, ?_, ?_⟩)))
  · rintro i u st₂ hi ⟨⟨e1, e2, e3, e4⟩, Di, n, L, e5, e6, g, hL, hp, vn, hev⟩
    obtain ⟨v, hv, rfl⟩ := get_map hi
    have hil := (List.getElem?_eq_some_iff.mp hv).1
    have hs3 : seq.length = 3 := hseq.length_eq
    have hdrop : seq.drop i = v :: seq.drop (i + 1) := by
      obtain ⟨hlt, e⟩ := List.getElem?_eq_some_iff.mp hv
      rw [← e]; exact List.drop_eq_getElem_cons hlt
    rw [hdrop] at hp
    have hvL : v ∈ L := hp.mem_iff.mpr (by simp)
    obtain ⟨v0, v3⟩ := hL.r v hvL
    obtain ⟨ht0, ht2⟩ := hT.ok v v0 v3
    obtain ⟨hL', W⟩ := erase_ok hL hvL
    have hp' : (L.erase v).Perm (seq.drop (i + 1)) := by
      have := hp.erase v
      simpa using this
    generalize hLL : L.erase v = L' at *
    have hsi := g.size
    have h3 := hL'.len
    refine aas_local ?_
    refine ax_cons (ax1_expr ?_ (by intro _ e; unfold interactive; rw [e]; rfl))
    have hH : st₂.H la = some (.list (L.map .int)) := by rw [e6]; exact hget _ _
    refine aw_meth (aw_local e4 ⟨.builtin "list.remove", _, keeps1_builtin, meth_list hH F.slot_list_remove rfl, aws_cons (aw_local rfl (aws_nil (fn_remove hH hvL (by have := hL.len; (first | lia | omega)) ?_)))⟩)
    try dsimp only [conU, fnQ, fnM, outQ, nx, asQ, retQ, nexQ, endQ, flV]
    rw [e6, DH_put n1 n2 n3, hput_put, hLL]
    refine ax_cons (ax1_assign (aw_sub (aw_tops (aw_local e1 ⟨rfl, aw_local rfl ⟨_, sub_tops hT.len v0 v3, aas_local ?_⟩⟩)) (by decide)))
    refine ax_cons (ax1_assign (aw_meth (aw_local e1 ⟨.ref 81, _, keep_leaf, meth_inst pg_leaf find_leaf ty_leaf rfl, aws_cons (aw_int (aws_nil (m_leaf o g.inv (by (first | lia | omega)) (by decide) fun z D1 g1 hz => aas_local ?_)))⟩)))
    have hs1 := g1.size
    refine ax_cons (ax1_for (awI_range1 (aw_BinOp (aw_local rfl (aw_int ⟨_, bin_add, _, rfl, by (first | lia | omega), by (first | lia | omega), .inr ⟨⟨_, _, rfl⟩, rfl⟩, fun j st => A5 (CaM G cells t la st) (st.m "variable" = some (.int v)) (st.m "top" = some (.int (topOf G.tops v))) (st.m "number" = some (.int n)) (∃ (Dj : Dg) (mm : Int), A5 (st.m "many" = some (.int mm)) (st.H = DH G Dj (hput H la (.list (L'.map .int)))) (Grow G.tops Di Dj (1 + j * 100)) ((nd Dj.nodes mm).isSome = true) (∀ a, nonneg a → onL G.tops L' a → Ev Dj.nodes mm a (Sp cells t L' v j a))),
      ⟨⟨e1, e2, e3, e4⟩, rfl, rfl, e5, D1, z, rfl, rfl, g1.le (by (first | lia | omega)), by rw [hz]; rfl, fun a _ _ => by
        have := Sp_zero (t := t) (L' := L') (a := a) K v0 v3
        rw [show ((0 : Nat) : Int) = 0 from rfl, this]; exact .leaf hz⟩, ?_, ?_⟩)))))
    · rintro j u st₃ hj ⟨⟨i1, i2, i3, i4⟩, i5, i6, i7, Dj, mm, i8, i9, gj, vm, hm⟩
      obtain ⟨rfl, hlt⟩ := range_get hj
      have hj3 : j < 3 := by (first | lia | omega)
      have hjt : ((j : Nat) : Int) ≤ topOf G.tops v := by (first | lia | omega)
      have hsj := gj.size
      have gpre := gj.pre
      refine aas_local ?_
      refine ax_cons (ax1_assign (aw_call keep_law_fixed (aw_global g_law_fixed ⟨rfl, aws_cons (aw_local i1 (aws_cons (aw_local i7 (aws_cons (aw_local i5 (aws_cons (aw_local rfl (aws_nil ?_))))))))⟩)))
      try dsimp only [conU, fnQ, fnM, outQ, nx, asQ, retQ, nexQ, endQ, flV]
      rw [i9]
      have gf3 : gfx 3 = 13 := rfl
      refine c_fixed o hT v0 v3 (by (first | lia | omega)) hjt 3 gj.inv (by (first | lia | omega)) (gpre.some vn) (by have := (lv_le gj.inv.wf n).1; (first | lia | omega)) (fun one D2 g2 fo => ?_) (by decide)
      have hs2 := g2.size
      refine aas_local ?_
      refine ax_cons (ax1_if (at_cmp (aw_local rfl (aw_callB keep_law_by_hand (aw_global g_law_by_hand ⟨rfl, aws_cons (aw_local i1 (aws_cons ?_))⟩)))))
      refine aw_callB keep_law_counts (aw_global g_law_counts ⟨rfl, aws_cons (aw_local i2 (aws_cons (aw_local i3 (aws_cons (aw_local i4 (aws_cons (aw_local i5 (aws_cons (aw_local rfl (aws_cons (aw_local rfl (aws_nil ?_))))))))))))⟩)
      refine ⟨la, L'.map .int, _, hget _ _, .same (.same (.lent (.same (.same (.same .nil))))), ?_⟩
      try dsimp only [conU, fnQ, fnM, outQ, nx, asQ, retQ, nexQ, endQ, flV]
      rw [hdl]
      refine (c_counts (t := t) K.len3 (by (first | lia | omega)) v0 v3 hL'.r h3 fun es ct => ⟨.dct es, hNL.dh, ?_⟩).le (by decide)
      rw [hpt]
      refine aws_cons (aw_local i4 (aws_cons (aw_tup (aws_nil ⟨by simp, aws_nil ?_⟩))))
      refine ⟨la, L'.map .int, _, hget _ _, .same (.same (.lent (.same .nil))), ?_⟩
      try dsimp only [conU, fnQ, fnM, outQ, nx, asQ, retQ, nexQ, endQ, flV]
      rw [hdl]
      have hE := look_some K ct hL' (.inl W.n) v0 v3 (by (first | lia | omega)) (Int.le_refl _) hjt
      refine m_by_hand o hT hL' hE g2.inv (by (first | lia | omega)) (by decide) fun r D3 g3 hr => ⟨.int r, hNL.dh, ?_⟩
      rw [hpt]
      have hs3' := g3.size
      have eone : one = r := same_hand hT g3.inv.wf hL' (g3.pre.some fo.v) hr fun a ha => by
        have hau : okA G.tops (upd a v (j : Nat)) := upd_ok ha (by (first | lia | omega)) hjt
        have h1 := hev (upd a v (j : Nat)) (fun x x0 x3 => (hau x x0 x3).1) (fun x hx => by obtain ⟨x0, x3⟩ := hL.r x hx; exact hau x x0 x3)
        rw [val_one W ct]
        exact (fo.ev a _ (Ev.mono (gpre.trans g2.pre) h1)).mono g3.pre
      refine ⟨_, cmp_ne, fun e => ?_, fun _ => ax_nil ?_⟩
      · rw [eone] at e; simp at e
      · refine ax_cons (ax1_assign (aw_call keep_law_plus (aw_global g_law_plus ⟨rfl, aws_cons (aw_local i1 (aws_cons (aw_local i8 (aws_cons (aw_local rfl (aws_nil ?_))))))⟩)))
        have gh3 : ghd 3 = 40 := rfl
        have wf3 := g3.inv.wf
        refine c_plus o hT 3 (l := 0) g3.inv (by (first | lia | omega)) ((g2.pre.trans g3.pre).some vm) (g3.pre.some fo.v) (lv_le wf3 _).1 (lv_le wf3 _).1 (by decide) (fun m' D4 g4 pl => aas_local ?_) (by decide)
        refine ax_nil ⟨⟨i1, i2, i3, i4⟩, i5, i6, i7, D4, m', rfl, rfl, (((gj.trans g2).trans g3).trans g4).le (by (first | lia | omega)), pl.v, fun a ha hl => ?_⟩
        have e1 := (Ev.mono ((g2.pre.trans g3.pre).trans g4.pre) (hm a ha hl))
        have hj0 : (0 : Int) ≤ (j : Nat) := by (first | lia | omega)
        have h1 := hev (upd a v (j : Nat)) (fun x x0 x3 => by
          by_cases z : x = v
          · subst z; rw [upd_self]; (first | lia | omega)
          · rw [upd_ne z]; exact ha x x0 x3) (fun x hx => by
          rcases (W.m x).mp hx with rfl | hx
          · rw [upd_self]; exact ⟨hj0, hjt⟩
          · rw [upd_ne (by rintro rfl; exact W.n hx)]; exact hl x hx)
        have e2 := Ev.mono (g3.pre.trans g4.pre) (fo.ev a _ (Ev.mono (gpre.trans g2.pre) h1))
        have e3 := pl.ev a _ _ ha e1 e2
        have es : (((j + 1 : Nat)) : Int) = (j : Int) + 1 := by (first | lia | omega)
        rw [es, Sp_succ, ← S_fix W]
        exact e3
    · rintro st₃ ⟨⟨i1, i2, i3, i4⟩, i5, i6, i7, Dj, mm, i8, i9, gj, vm, hm⟩
      rw [range_len] at gj hm
      have etn : (((topOf G.tops v + 1).toNat : Nat) : Int) = topOf G.tops v + 1 := by (first | lia | omega)
      rw [etn] at hm
      have hsj := gj.size
      refine ax_cons (ax1_assign (aw_local i8 (aas_local ?_)))
      refine ax_cons (ax1_if (at_not (at_val (aw_callB keep_law_is_told (aw_global g_law_is_told ⟨rfl, aws_cons (aw_local i1 (aws_cons (aw_local rfl (aws_cons (aw_local i4 (aws_cons ?_))))))⟩)))))
      refine aw_callB keep_law_counts (aw_global g_law_counts ⟨rfl, aws_cons (aw_local i2 (aws_cons (aw_local i3 (aws_cons (aw_local i4 (aws_cons (aw_local i5 (aws_cons (aw_int (aws_cons (aw_local i6 (aws_nil ?_))))))))))))⟩)
      try dsimp only [conU, fnQ, fnM, outQ, nx, asQ, retQ, nexQ, endQ, flV]
      rw [i9]
      refine ⟨la, L'.map .int, _, hget _ _, .same (.same (.lent (.same (.same (.same .nil))))), ?_⟩
      rw [hdl]
      refine (c_counts (t := t) K.len3 (by (first | lia | omega)) v0 v3 hL'.r h3 fun es ct => ⟨.dct es, hNL.dh, ?_⟩).le (by decide)
      rw [hpt]
      refine aws_nil ⟨la, L'.map .int, _, hget _ _, .same (.same (.lent (.same .nil))), ?_⟩
      try dsimp only [conU, fnQ, fnM, outQ, nx, asQ, retQ, nexQ, endQ, flV]
      rw [hdl]
      have hE := look_some K ct hL' (.inr ⟨rfl, rfl⟩) v0 v3 (Int.le_refl _) ht0 (Int.le_refl _)
      refine (c_is_told o hT gj.inv (by (first | lia | omega)) vm hL' hE (keys_ok K ct) (fun a ha hl => ?_) fun D5 g5 => ⟨.bool true, hNL.dh, ?_⟩).le (by decide)
      · rw [val_all K v0 v3 ct, ← Sp_top K v0 v3]; exact hm a ha hl
      · rw [hpt]
        refine ⟨true, tr_bool, fun e => (by cases e), fun _ => ax_nil (ax_nil ⟨⟨i1, i2, i3, i4⟩, D5, mm, L', rfl, rfl, ((g.trans gj).trans g5).le (by (first | lia | omega)), hL', hp', g5.pre.some vm, fun a ha hl => ?_⟩)⟩
        have := hm a ha hl
        rw [Sp_top K v0 v3] at this
        exact this.mono g5.pre
  · rintro st₂ ⟨⟨e1, e2, e3, e4⟩, Di, n, L, e5, e6, g, hL, hp, vn, hev⟩
    have hs3 : seq.length = 3 := hseq.length_eq
    rw [List.length_map, hs3] at g hp
    rw [List.drop_eq_nil_of_le (by (first | lia | omega))] at hp
    have hL0 : L = [] := List.Perm.eq_nil hp
    subst hL0
    have hsi := g.size
    have hlen : Di.nodes.length ≤ 2 ^ 20 := by unfold sizeD lim at *; (first | lia | omega)
    obtain ⟨k, hk⟩ := Option.isSome_iff_exists.mp vn
    have big := hev (fun _ => 1000) (fun _ _ _ => (show (0 : Int) ≤ 1000 by decide)) (fun x hx => by cases hx)
    have hleaf : nd Di.nodes n = some (.leaf (cells.map t).sum) := by
      rw [S_nil] at big
      cases big with
      | leaf h => exact h
      | br h p e =>
        have B := g.inv.wf.ok _ _ _ h
        have := (hT.ok _ B.x0 B.x3).2
        rw [pick_none B.rise (show topOf G.tops _ < 1000 by (first | lia | omega))] at p; cases p
    refine aT.forget (st := ⟨st₂.m, DH G Di H⟩) ?_ (fun _ _ e => e) (fun b ob eb => ?_)
    · refine ax_cons (ax1_ret (aw_cmp (aw_meth (aw_local e1 ⟨.ref 95, _, keep_node, meth_inst pg_node find_node ty_node rfl, aws_cons (aw_local e5 (aws_nil (m_node o hlen (by decide) hleaf ?_)))⟩))))
      refine aw_tup (aws_cons (aw_str (aws_cons (aw_call keeps1_builtin (aw_builtin n_sum rfl ⟨rfl, aws_cons (aw_local e3 (aws_nil (fn_sum_lst ?_)))⟩)))))
      refine aws_nil ⟨by simp, _, cmp_eq_leaf, ?_⟩
      exact q Di (g.le (by (first | lia | omega)))
    · rw [e6, ← hpt]
      exact hput_sub (by rw [DH_ne n1 n2 n3]; exact hl0) b ob eb
end
end Mine
end

section
open PySem PySem.W PyProof.Rows PySem.Calls
set_option Elab.async false
set_option maxRecDepth 100000
set_option linter.unusedVariables false
namespace Mine
def cZ (x y k : Nat) : List (List Int) := (List.range k).map fun z : Nat => [(x : Int), (y : Int), (z : Int)]
def cY (x j t2 : Nat) : List (List Int) := (List.range j).flatMap fun y => cZ x y t2
def cX (i t1 t2 : Nat) : List (List Int) := (List.range i).flatMap fun x => cY x t1 t2
theorem cZ_succ {x y k : Nat} : cZ x y (k + 1) = cZ x y k ++ [[(x : Int), (y : Int), (k : Int)]] := by unfold cZ; rw [List.range_succ, List.map_append]; rfl
theorem cY_succ {x j t2 : Nat} : cY x (j + 1) t2 = cY x j t2 ++ cZ x j t2 := by unfold cY; rw [List.range_succ, List.flatMap_append]; simp
theorem cX_succ {i t1 t2 : Nat} : cX (i + 1) t1 t2 = cX i t1 t2 ++ cY i t1 t2 := by unfold cX; rw [List.range_succ, List.flatMap_append]; simp
theorem cZ_len {x y k : Nat} : (cZ x y k).length = k := by simp [cZ]
theorem cY_len {x j t2 : Nat} : (cY x j t2).length = j * t2 := by
  induction j with
  | zero => simp [cY]
  | succ j ih => rw [cY_succ, List.length_append, ih, cZ_len, Nat.add_mul]; (first | lia | omega)
theorem cX_len {i t1 t2 : Nat} : (cX i t1 t2).length = i * (t1 * t2) := by
  induction i with
  | zero => simp [cX]
  | succ i ih => rw [cX_succ, List.length_append, ih, cY_len, Nat.add_mul]; (first | lia | omega)
theorem cX_mem {i t1 t2 : Nat} {c : List Int} : c ∈ cX i t1 t2 ↔ ∃ x y z : Nat, x < i ∧ y < t1 ∧ z < t2 ∧ c = [(x : Int), (y : Int), (z : Int)] := by
  unfold cX cY cZ
  simp only [List.mem_flatMap, List.mem_range, List.mem_map]
  constructor
  · rintro ⟨x, hx, y, hy, z, hz, rfl⟩; exact ⟨x, y, z, hx, hy, hz, rfl⟩
  · rintro ⟨x, y, z, hx, hy, hz, rfl⟩; exact ⟨x, hx, y, hy, z, hz, rfl⟩
theorem cX_fin : ∀ i : Fin 4, ∀ j : Fin 4, ∀ k : Fin 4, (cX i j k).Nodup ∧ (cX i j k).length ≤ 27 := by decide +kernel
theorem cX_nodup {i j k : Nat} (hi : i ≤ 3) (hj : j ≤ 3) (hk : k ≤ 3) : (cX i j k).Nodup ∧ (cX i j k).length ≤ 27 := cX_fin ⟨i, by (first | lia | omega)⟩ ⟨j, by (first | lia | omega)⟩ ⟨k, by (first | lia | omega)⟩
theorem aOf3 (x y z : Int) : aOf [x, y, z] 0 = x ∧ aOf [x, y, z] 1 = y ∧ aOf [x, y, z] 2 = z := ⟨rfl, rfl, rfl⟩
theorem three {x : Int} (h0 : 0 ≤ x) (h3 : x < 3) : x = 0 ∨ x = 1 ∨ x = 2 := by (first | lia | omega)
theorem cells_ok {t0 t1 t2 : Int} (h0 : 0 ≤ t0 ∧ t0 ≤ 2) (h1 : 0 ≤ t1 ∧ t1 ≤ 2) (h2 : 0 ≤ t2 ∧ t2 ≤ 2) : CellsOk [t0, t1, t2] (cX (t0 + 1).toNat (t1 + 1).toNat (t2 + 1).toNat) := by
  have top0 : topOf [t0, t1, t2] 0 = t0 := rfl
  have top1 : topOf [t0, t1, t2] 1 = t1 := rfl
  have top2 : topOf [t0, t1, t2] 2 = t2 := rfl
  refine ⟨fun c hc => ?_, (cX_nodup (by (first | lia | omega)) (by (first | lia | omega)) (by (first | lia | omega))).2, fun a ha => ?_, fun c hc => ?_⟩
  · obtain ⟨x, y, z, _, _, _, rfl⟩ := cX_mem.mp hc; rfl
  · have a0 := ha 0 (by decide) (by decide)
    have a1 := ha 1 (by decide) (by decide)
    have a2 := ha 2 (by decide) (by decide)
    rw [top0] at a0; rw [top1] at a1; rw [top2] at a2
    refine ⟨_, cX_mem.mpr ⟨(a 0).toNat, (a 1).toNat, (a 2).toNat, by (first | lia | omega), by (first | lia | omega), by (first | lia | omega), rfl⟩, fun x x0 x3 => ?_⟩
    obtain ⟨e0, e1, e2⟩ := aOf3 ((a 0).toNat : Int) ((a 1).toNat : Int) ((a 2).toNat : Int)
    rcases three x0 x3 with rfl | rfl | rfl
    · rw [e0]; (first | lia | omega)
    · rw [e1]; (first | lia | omega)
    · rw [e2]; (first | lia | omega)
  · obtain ⟨x, y, z, hx, hy, hz, rfl⟩ := cX_mem.mp hc
    intro w w0 w3
    obtain ⟨e0, e1, e2⟩ := aOf3 (x : Int) (y : Int) (z : Int)
    rcases three w0 w3 with rfl | rfl | rfl
    · rw [e0, top0]; (first | lia | omega)
    · rw [e1, top1]; (first | lia | omega)
    · rw [e2, top2]; (first | lia | omega)
theorem seen_congr {a b : Int → Int} (h : ∀ x, 0 ≤ x → x < 3 → a x = b x) : ∀ {l : List Step}, (∀ s ∈ l, ∃ i, StepOk i s) → ∀ seen, seenL a l seen = seenL b l seen
  | [], _, _ => rfl
  | s :: l, hs, seen => by
    unfold seenL
    have : stepB seen a s = stepB seen b s := by
      cases s with
      | test k sp =>
        obtain ⟨i, h1, h2, _⟩ := hs _ (.head _)
        show withinB sp (a k) = withinB sp (b k)
        rw [h k h1 h2]
      | _ => rfl
    rw [this]
    exact seen_congr h (fun s hs' => hs s (.tail _ hs')) _
theorem tried_congr {a b : Int → Int} {steps : List Step} (hs : StepsOk steps) (h : ∀ x, 0 ≤ x → x < 3 → a x = b x) : tried steps a = tried steps b := by
  unfold tried
  rw [seen_congr h fun s hs' => by obtain ⟨i, hi⟩ := List.mem_iff_getElem?.mp hs'; exact ⟨i, hs i s hi⟩]
def truth (steps : List Step) (c : List Int) : Int := if tried steps (aOf c) then 1 else 0
theorem perm6 {k : Int} (h0 : 0 ≤ k) (h6 : k < 6) : ∃ a b c : Int, ([V.ints [0, 1, 2], V.ints [1, 2, 0], V.ints [2, 0, 1], V.ints [0, 2, 1], V.ints [1, 0, 2], V.ints [2, 1, 0]] : List V)[k.toNat]? = some (V.ints [a, b, c]) ∧ [a, b, c].Perm [0, 1, 2] := by
  have : k = 0 ∨ k = 1 ∨ k = 2 ∨ k = 3 ∨ k = 4 ∨ k = 5 := by (first | lia | omega)
  rcases this with rfl | rfl | rfl | rfl | rfl | rfl
  · exact ⟨0, 1, 2, rfl, by decide⟩
  · exact ⟨1, 2, 0, rfl, by decide⟩
  · exact ⟨2, 0, 1, rfl, by decide⟩
  · exact ⟨0, 2, 1, rfl, by decide⟩
  · exact ⟨1, 0, 2, rfl, by decide⟩
  · exact ⟨2, 1, 0, rfl, by decide⟩
section
variable {C : Cx} {f : Fm} {st : St} {G : Gd} {D : Dg} {H : Addr → Option AO} {d : Nat} {Q : V → (Addr → Option AO) → Prop}
def tupsOf : List Expr → Option (List (List Int))
  | [] => some []
  | .Tuple es _ _ :: r => match intsOf es, tupsOf r with
    | some is, some l => if is.length ≤ 100 then some (is :: l) else none
    | _, _ => none
  | _ => none
theorem aws_tups : ∀ {es : List Expr} {ls : List (List Int)} {st : St} {Q : List V → St → Prop}, tupsOf es = some ls → Q (ls.map V.ints) st → aws C f es Q st
  | [], _, _, _, h, q => by cases h; exact aws_nil q
  | e :: es, ls, st, Q, h, q => by
    unfold tupsOf at h
    split at h
    · rename_i e'; cases e'
    · rename_i es1 n p r e'
      cases e'
      split at h
      · rename_i is l h1 h2
        split at h
        · rename_i hl
          cases h
          exact aws_cons (aw_tup (aws_ints h1 ⟨by simp; (first | lia | omega), aws_tups h2 q⟩))
        · cases h
      · cases h
    · cases h
theorem c_law (hNL : HNL H) {script : List Int} (hn : script.length ≤ 63) (q : ∀ H', Q (.bool true) H') : Fn C 16 (.ref 245) [.lst (script.map .int)] H Q := by
  refine fn_cell def_law rfl (by kernel_rfl) (fun n => by kernel_rfl) ?_
  conv => arg 3; whnf
  conv => arg 2; arg 1; whnf
  refine ax_cons (ax1_assign (aw_call keep_law_drawn (aw_global g_law_drawn ⟨rfl, aws_cons (aw_local (u := .lst (script.map .int)) rfl (aws_nil ((c_drawn hn fun told hl => aas_local ?_).le (by decide))))⟩)))
  obtain ⟨x0, -, hx0⟩ := get_ints (l := told) (i := 0) (by (first | lia | omega))
  obtain ⟨x1, -, hx1⟩ := get_ints (l := told) (i := 1) (by (first | lia | omega))
  obtain ⟨x2, -, hx2⟩ := get_ints (l := told) (i := 2) (by (first | lia | omega))
  obtain ⟨x3, -, hx3⟩ := get_ints (l := told) (i := 3) (by (first | lia | omega))
  have a0 := Int.fmod_nonneg_of_pos x0 (b := 2) (by decide)
  have a0' := Int.fmod_lt_of_pos x0 (b := 2) (by decide)
  have a1 := Int.fmod_nonneg_of_pos x1 (b := 3) (by decide)
  have a1' := Int.fmod_lt_of_pos x1 (b := 3) (by decide)
  have a2 := Int.fmod_nonneg_of_pos x2 (b := 2) (by decide)
  have a2' := Int.fmod_lt_of_pos x2 (b := 2) (by decide)
  refine ax_cons (ax1_assign (aw_tup (aws_cons ?_)))
  refine aw_BinOp (aw_BinOp (aw_sub (aw_local (u := .lst (told.map .int)) rfl (aw_int ⟨_, sub_lst (by decide) (by decide) hx0, aw_int ⟨_, bin_mod (by decide), aw_int ⟨_, bin_add, aws_cons ?_⟩⟩⟩)) (by decide)))
  refine aw_BinOp (aw_sub (aw_local (u := .lst (told.map .int)) rfl (aw_int ⟨_, sub_lst (by decide) (by decide) hx1, aw_int ⟨_, bin_mod (by decide), aws_cons ?_⟩⟩)) (by decide))
  refine aw_BinOp (aw_BinOp (aw_sub (aw_local (u := .lst (told.map .int)) rfl (aw_int ⟨_, sub_lst (by decide) (by decide) hx2, aw_int ⟨_, bin_mod (by decide), aw_int ⟨_, bin_add, aws_nil ⟨by simp, ?_⟩⟩⟩⟩)) (by decide)))
  have b0 : 0 ≤ x0.fmod 2 + 1 ∧ x0.fmod 2 + 1 ≤ 2 := by (first | lia | omega)
  have b1 : 0 ≤ x1.fmod 3 ∧ x1.fmod 3 ≤ 2 := by (first | lia | omega)
  have b2 : 0 ≤ x2.fmod 2 + 1 ∧ x2.fmod 2 + 1 ≤ 2 := by (first | lia | omega)
  generalize x0.fmod 2 + 1 = t0 at b0 ⊢
  generalize x1.fmod 3 = t1 at b1 ⊢
  generalize x2.fmod 2 + 1 = t2 at b2 ⊢
  clear a0 a0' a1 a1' a2 a2' hx0 hx1 hx2
  have etops : V.tup [.int t0, .int t1, .int t2] = V.ints [t0, t1, t2] := rfl
  rw [etops]
  have hT : TopsOk [t0, t1, t2] := ⟨rfl, fun x x0 x3 => by
    rcases three x0 x3 with rfl | rfl | rfl
    · exact b0
    · exact b1
    · exact b2⟩
  have K := cells_ok b0 b1 b2
  have hnd := (cX_nodup (i := (t0 + 1).toNat) (j := (t1 + 1).toNat) (k := (t2 + 1).toNat) (by (first | lia | omega)) (by (first | lia | omega)) (by (first | lia | omega))).1
  refine aas_cell ?_
  -- steps
  refine ax_cons (ax1_assign (aw_call keep_law_steps (aw_global g_law_steps ⟨rfl, aws_cons (aw_local (u := .lst (told.map .int)) rfl (aws_cons (aw_cell (u := V.ints [t0, t1, t2]) rfl (aws_nil ((c_steps hT hl fun steps hso hsl => aas_cell ?_).le (by decide))))))⟩)))
  -- cells
  have sub0 : ∀ {H' : Addr → Option AO}, SubOk C (V.ints [t0, t1, t2]) (.int 0) H' (.int t0) := sub_tup0 (by decide) (by decide) rfl
  have sub1 : ∀ {H' : Addr → Option AO}, SubOk C (V.ints [t0, t1, t2]) (.int 1) H' (.int t1) := sub_tup0 (by decide) (by decide) rfl
  have sub2 : ∀ {H' : Addr → Option AO}, SubOk C (V.ints [t0, t1, t2]) (.int 2) H' (.int t2) := sub_tup0 (by decide) (by decide) rfl
  have hN := (cX_nodup (i := (t0 + 1).toNat) (j := (t1 + 1).toNat) (k := (t2 + 1).toNat) (by (first | lia | omega)) (by (first | lia | omega)) (by (first | lia | omega))).2
  generalize hn0 : (t0 + 1).toNat = m0 at *
  generalize hn1 : (t1 + 1).toNat = m1 at *
  generalize hn2 : (t2 + 1).toNat = m2 at *
  refine ax_cons (ax1_comp false ?hcc (by rfl) (by simp) ?hsw)
  case hsw => intro env e; obtain ⟨s1, s2, s3, s4, s5, s6, s7, s8, s9⟩ := env; dsimp only at e; subst e; rfl
  refine awI_range1 (aw_BinOp (aw_sub (aw_cell (u := V.ints [t0, t1, t2]) rfl (aw_int ⟨_, sub0, aw_int ⟨_, bin_add, _, rfl, by (first | lia | omega), by (first | lia | omega), .inr ⟨⟨_, _, rfl⟩, rfl⟩, fun i ys st => A3 (st.m "tops" = some (V.ints [t0, t1, t2])) (st.H = H) (ys = (cX i m1 m2).map V.ints), ⟨rfl, rfl, rfl⟩, ?_, ?_⟩⟩)) (by decide)))
  · rintro i u ys st₂ hi ⟨e1, e2, e3⟩
    obtain ⟨rfl, hlt⟩ := range_get hi
    refine aas_local ⟨rfl, rfl, (fun _ _ => rfl), ?_⟩
    refine awI_range1 (aw_BinOp (aw_sub (aw_cell e1 (aw_int ⟨_, sub1, aw_int ⟨_, bin_add, _, rfl, by (first | lia | omega), by (first | lia | omega), .inr ⟨⟨_, _, rfl⟩, rfl⟩, fun j ys st => A4 (st.m "tops" = some (V.ints [t0, t1, t2])) (st.m "x" = some (.int (i : Nat))) (st.H = H) (ys = (cX i m1 m2 ++ cY i j m2).map V.ints), ⟨e1, rfl, e2, by rw [e3]; simp [cY]⟩, ?_, ?_⟩⟩)) (by decide)))
    · rintro j u ys st₃ hj ⟨i1, i2, i3, i4⟩
      obtain ⟨rfl, hlt'⟩ := range_get hj
      refine aas_local ⟨rfl, rfl, (fun _ _ => rfl), ?_⟩
      refine awI_range1 (aw_BinOp (aw_sub (aw_cell i1 (aw_int ⟨_, sub2, aw_int ⟨_, bin_add, _, rfl, by (first | lia | omega), by (first | lia | omega), .inr ⟨⟨_, _, rfl⟩, rfl⟩, fun k ys st => A5 (st.m "tops" = some (V.ints [t0, t1, t2])) (st.m "x" = some (.int (i : Nat))) (st.m "y" = some (.int (j : Nat))) (st.H = H) (ys = (cX i m1 m2 ++ cY i j m2 ++ cZ i j k).map V.ints), ⟨i1, i2, rfl, i3, by rw [i4]; simp [cZ]⟩, ?_, ?_⟩⟩)) (by decide)))
      · rintro k u ys st₄ hk ⟨j1, j2, j3, j4, j5⟩
        obtain ⟨rfl, hlt''⟩ := range_get hk
        refine aas_local ⟨?_, ?_⟩
        · rw [j5, List.length_map, List.length_append, List.length_append, cX_len, cY_len, cZ_len]
          have q1 : m1 * m2 ≤ 3 * 3 := Nat.mul_le_mul (by (first | lia | omega)) (by (first | lia | omega))
          have q2 : i * (m1 * m2) ≤ 3 * (3 * 3) := Nat.mul_le_mul (by (first | lia | omega)) q1
          have q3 : j * m2 ≤ 3 * 3 := Nat.mul_le_mul (by (first | lia | omega)) (by (first | lia | omega))
          (first | lia | omega)
        · refine aw_tup (aws_cons (aw_local j2 (aws_cons (aw_local j3 (aws_cons (aw_local rfl (aws_nil ⟨by simp, j1, j2, j3, j4, ?_⟩)))))))
          rw [j5, cZ_succ, ← List.append_assoc, List.map_append (l₂ := [_])]; rfl
      · rintro ys st₄ ⟨j1, j2, j3, j4, j5⟩
        rw [range_len, hn2] at j5
        exact ⟨j1, j2, j4, by rw [j5, cY_succ, List.append_assoc]⟩
    · rintro ys st₃ ⟨i1, i2, i3, i4⟩
      rw [range_len, hn1] at i4
      exact ⟨i1, i3, by rw [i4, cX_succ]⟩
  · rintro ys st₂ ⟨e1, e2, e3⟩
    rw [range_len, hn0] at e3
    subst e3
    refine aas_local ?_
    try dsimp only [conU, fnQ, fnM, outQ, nx, asQ, retQ, nexQ, endQ, flV]
    rw [e2]
    generalize hcells : cX m0 m1 m2 = cells at *
    -- truths
    refine ax_cons (ax1_comp false ?hcc2 (by rfl) (by simp) ?hsw2)
    case hsw2 => intro env e; obtain ⟨s1, s2, s3, s4, s5, s6, s7, s8, s9⟩ := env; dsimp only at e; subst e; rfl
    refine awI_lst (aw_local (u := .lst (cells.map V.ints)) rfl ⟨_, rfl, .inr ⟨⟨_, _, rfl⟩, rfl⟩, fun i ys st => A3 (st.m "steps" = some (.lst (steps.map Step.toV))) (st.H = H) (ys = ((cells.take i).map (truth steps)).map .int), ⟨rfl, rfl, rfl⟩, ?_, ?_⟩)
    · rintro i u ys st₃ hi ⟨i1, i2, i3⟩
      obtain ⟨c, hc, rfl⟩ := get_map hi
      have hil := (List.getElem?_eq_some_iff.mp hc).1
      refine aas_local ⟨by rw [i3]; simp; (first | lia | omega), ?_⟩
      refine aw_call keep_law_tried (aw_global g_law_tried ⟨rfl, aws_cons (aw_cell i1 (aws_cons (aw_local rfl (aws_nil ?_))))⟩)
      try dsimp only [conU, fnQ, fnM, outQ, nx, asQ, retQ, nexQ, endQ, flV]
      rw [i2]
      refine (c_tried (K.len3 c (List.mem_of_getElem? hc)) hso hsl ⟨i1, rfl, ?_⟩).le (by decide)
      rw [i3, take_snoc hc, List.map_append, List.map_append]; rfl
    rintro ys st₃ ⟨i1, i2, i3⟩
    rw [List.length_map, List.take_length] at i3
    subst i3
    refine aas_local ?_
    try dsimp only [conU, fnQ, fnM, outQ, nx, asQ, retQ, nexQ, endQ, flV]
    rw [i2]
    -- diagrams
    refine ax_cons (ax1_assign (aw_call keep_Diagrams (aw_global g_Diagrams ⟨rfl, aws_cons (aw_cell (u := V.ints [t0, t1, t2]) rfl (aws_nil ((c_Diagrams fun G o hG _ _ _ => aas_local ?_).le (by decide))))⟩)))
    rw [← hG] at hT K
    have I0 : Inv G.tops ⟨[], []⟩ := ⟨⟨.nil, fun n x ps e => by
      obtain ⟨m, _, h⟩ := nd_nat e
      simp at h⟩, fun e he => by cases he⟩
    have hz : sizeD ⟨[], []⟩ = 0 := rfl
    have hlim : lim = 1048575 := by decide
    refine ax_cons (ax1_assign (aw_call keep_law_node (aw_global g_law_node ⟨rfl, aws_cons (aw_local (u := G.val) rfl (aws_cons (aw_cell (u := .lst (steps.map Step.toV)) rfl (aws_nil ?_))))⟩)))
    refine (c_lawnode o hT I0 (by (first | lia | omega)) hso hsl fun r D1 g1 tl => aas_local ?_).le (by decide)
    have s1 := g1.size
    have hev : ∀ a, okA G.tops a → Ev D1.nodes r a (S cells (truth steps) [0, 1, 2] a) := fun a ha => by
      obtain ⟨c, hc, hca⟩ := K.all a ha
      rw [S_full K hnd hc hca]
      unfold truth
      rw [tried_congr hso hca]
      exact tl.ev a ha
    have onok : ∀ a, onL G.tops [0, 1, 2] a → okA G.tops a := fun a h x x0 x3 => by
      rcases three x0 x3 with rfl | rfl | rfl <;> exact h _ (by decide)
    have hL : LeftOk [0, 1, 2] := ⟨by decide, by decide⟩
    have ht0 := hT.ok 0 (by decide) (by decide)
    have e0 : topOf G.tops 0 = t0 := by rw [hG]; rfl
    -- every
    refine ax_cons (ax1_assign (aw_list (aws_cons (aw_int (aws_cons (aw_int (aws_cons (aw_int (aws_nil ⟨by simp, aas_local ?_⟩)))))))))
    refine ax_cons (ax1_if (at_not (at_val (aw_call keep_law_is_told (aw_global g_law_is_told ⟨rfl, aws_cons (aw_local (u := G.val) rfl (aws_cons (aw_local (u := .int r) rfl (aws_cons (aw_local (u := .lst ([0, 1, 2].map .int)) rfl (aws_cons ?_))))))⟩)))))
    refine aw_call keep_law_counts (aw_global g_law_counts ⟨rfl, aws_cons (aw_local (u := .lst (cells.map V.ints)) rfl (aws_cons (aw_local (u := .lst ((cells.map (truth steps)).map .int)) rfl (aws_cons (aw_local (u := .lst ([0, 1, 2].map .int)) rfl (aws_cons (aw_int (aws_cons (aw_int (aws_cons ?_))))))))))⟩)
    refine aw_sub (aw_cell (u := V.ints [t0, t1, t2]) rfl (aw_int ⟨_, sub0, aws_nil ?_⟩)) (by decide)
    refine (c_counts (t := truth steps) (left := [0, 1, 2]) K.len3 (by (first | lia | omega)) (by decide) (by decide) hL.r (by decide) fun es ct => aws_nil ?_).le (by decide)
    have ct' : CtI (truth steps) [0, 1, 2] 0 0 (topOf G.tops 0) cells es := by rw [e0]; exact ct
    have hE := look_some K ct' hL (.inr ⟨rfl, rfl⟩) (by decide) (by decide) (Int.le_refl _) ht0.1 (Int.le_refl _)
    refine (c_is_told o hT g1.inv (by (first | lia | omega)) tl.v hL hE (keys_ok K ct') (fun a ha hl => ?_) fun D2 g2 => ⟨true, tr_bool, fun e => (by cases e), fun _ => ax_nil ?_⟩).le (by decide)
    · rw [val_all K (by decide) (by decide) ct']
      exact hev a (onok a hl)
    have s2 := g2.size
    have k0 := Int.fmod_nonneg_of_pos x3 (b := 6) (by decide)
    have k6 := Int.fmod_lt_of_pos x3 (b := 6) (by decide)
    obtain ⟨a, b, c, hp6, hperm⟩ := perm6 k0 k6
    refine ax_cons ?_
    refine ax1_assign ?h1 ?hs ?hw ?ha
    case hs => intro _; rfl
    case hw => intro _; rfl
    case ha => intro _; rfl
    refine aw_sub ?htup ?hdd ?hss
    case hdd => decide
    case hss => intro _ _; rfl
    refine aw_tup ?_
    refine aws_tups (ls := [[0, 1, 2], [1, 2, 0], [2, 0, 1], [0, 2, 1], [1, 0, 2], [2, 1, 0]]) ?hx ?_
    case hx => kernel_rfl
    refine ⟨by decide, ?_⟩
    refine aw_BinOp (aw_sub (aw_local (u := .lst (told.map .int)) rfl (aw_int ⟨_, sub_lst (by decide) (by decide) hx3, aw_int ⟨_, bin_mod (by decide), _, sub_tup0 k0 (by (first | lia | omega)) hp6, ?_⟩⟩)) (by decide))
    refine aas_tup (us := [.int a, .int b, .int c]) (aas_local (aas_local (aas_local ?_))) rfl
    have ev2 : ∀ a, nonneg a → onL G.tops [0, 1, 2] a → Ev D2.nodes r a (S cells (truth steps) [0, 1, 2] a) := fun a _ hl => (hev a (onok a hl)).mono g2.pre
    refine ax_cons ?_
    refine ax1_if (at_not (at_val (aw_call keep_law_counted_away (aw_global g_law_counted_away ⟨rfl, aws_cons (aw_local (u := G.val) rfl (aws_cons (aw_local (u := .lst (cells.map V.ints)) rfl (aws_cons (aw_local (u := .lst ((cells.map (truth steps)).map .int)) rfl (aws_cons (aw_local (u := .int r) rfl (aws_cons ?_))))))))⟩))))
    refine aw_tup (aws_cons (aw_local (u := .int a) rfl (aws_cons (aw_local (u := .int b) rfl (aws_cons (aw_local (u := .int c) rfl (aws_nil ⟨by simp, aws_nil ?_⟩)))))))
    refine (c_counted_away (seq := [a, b, c]) o hT hNL g2.inv (by (first | lia | omega)) K hperm (g2.pre.some tl.v) ev2 fun D3 g3 => ⟨true, tr_bool, fun e => (by cases e), fun _ => ax_nil ?_⟩).le (by decide)
    have s3 := g3.size
    have ev3 : ∀ a, nonneg a → onL G.tops [0, 1, 2] a → Ev D3.nodes r a (S cells (truth steps) [0, 1, 2] a) := fun a ha hl => (ev2 a ha hl).mono g3.pre
    have hperm' : [c, b, a].Perm [0, 1, 2] := (List.reverse_perm [a, b, c]).trans hperm
    refine ax_cons ?_
    refine ax1_ret (aw_call keep_law_counted_away (aw_global g_law_counted_away ⟨rfl, aws_cons (aw_local (u := G.val) rfl (aws_cons (aw_local (u := .lst (cells.map V.ints)) rfl (aws_cons (aw_local (u := .lst ((cells.map (truth steps)).map .int)) rfl (aws_cons (aw_local (u := .int r) rfl (aws_cons ?_))))))))⟩))
    refine aw_tup (aws_cons (aw_local (u := .int c) rfl (aws_cons (aw_local (u := .int b) rfl (aws_cons (aw_local (u := .int a) rfl (aws_nil ⟨by simp, aws_nil ?_⟩)))))))
    exact (c_counted_away (seq := [c, b, a]) o hT hNL g3.inv (by (first | lia | omega)) K hperm' (g3.pre.some (g2.pre.some tl.v)) ev3 fun D4 g4 => q _).le (by decide)
end
end Mine
end

section
open PySem PySem.W PyProof.Rows PySem.Calls
set_option Elab.async false
set_option maxRecDepth 100000
set_option linter.unusedVariables false
set_option maxHeartbeats 4000000
namespace Mine
theorem ints_reps {w : World} {K : KM} : ∀ {vs : List Value} {ns : List Int}, IntsAre vs ns → Reps w K (ns.map .int) vs
  | _, _, .nil => .nil
  | _, _, .cons n t h => .cons (.int n t) (ints_reps h)
theorem law_addr {P : Params} : nsIn (frK P) mainGlobals "law" = some (some (.ref 245)) := by kernel_rfl
theorem walk (q : Program) (d : DefRec) (kwd : List (Str × PySem.Expr)) (hq : importsNone q = true) (hdn : d.name = "law") : WalkO q [] (XL q []) (kHook frK kAs kAs_eq).says PySem.Challenge.rw_pq1073_01.row.toRowW d kwd fun f vs => call f vs := by
  intro w s₀ s₁ mg mb G Y fa o pm cd doc dV kV ho hd hcd hD hmg hg args vals as hpre hlay hrd hwl hlo
  have KX := kIn_of Y
  refine Ground.open G ?_
  intro T B D TE TW
  wrow_args hpre hlay hrd hwl hlo
  rename_i ns hs hlay0 hL1 hr1 hl2 a4 a3 la vs a0 hLs ra w1 r0 hI hr hc1 hc2
  have hfa : fa = 245 := by
    rw [hdn] at hmg
    have h1 := mg_of (n := "law") KX T.g law_addr
    have h2 : some (Value.ref fa) = some (Value.ref 245) := hmg.symm.trans h1
    injection h2 with h2; injection h2
  subst hfa
  have hlen : ns.length ≤ 63 := by (first | lia | omega)
  let C : Cx := ⟨w, s₁.heap, mg, mb, T.g, T.b, T.nolimit, T.seer hq, T.builtins, KX⟩
  obtain ⟨ob, hob, hcl, n, hdt⟩ := hLs
  let K : KM := fun a => if a = la then some ob else none
  have hK : ∀ a o, K a = some o → s₁.heap.get? a = some o := fun a o e => by
    by_cases q : a = la
    · subst q
      have : K a = some ob := if_pos rfl
      rw [this] at e; cases e; exact hob
    · have : K a = none := if_neg q
      rw [this] at e; cases e
  have R : RH w s₁.heap.get? K (fun _ => none) s₁.heap := ⟨fun _ _ e => e, hK, fun a o e => by cases e⟩
  have F := c_law (C := C) (H := fun _ => none) (Q := fun u _ => u = .bool true) (fun a o e => by cases e) hlen (fun _ => rfl)
  show wpAny (model _ w) callerA (call (.ref 245) [.ref la]) _ _ s₁
  refine F s₁.heap.get? K callerA s₁ [.ref la] _ _ ⟨rfl, by decide, by decide, ⟨_, rfl⟩⟩ (fun _ _ e => e) R (.cons (.lst (ws := vs) (n := n) (if_pos rfl) hcl hdt (ints_reps hI)) .nil) ?_
  rintro u v H' K' h' tk g R' r rfl
  cases r
  refine ⟨.inl ⟨.bool true, .bool true, [], rfl, ?_, .bool true, ?_, fun _ => ⟨.nil, fun a h => by cases h⟩⟩, OldK.of_keep fun b o e => R'.prot b o e, rfl, .of_eq hg⟩
  · intro cls; rfl
  · wrow_post
end Mine
end

open PySem PySem.W PyProof.Rows
set_option maxRecDepth 100000
namespace Mine
/- The head lays fast copies of every constant of its own; their equations are large. Names that stand already keep it from that. -/
theorem hd.tw6019021122589006684 : True := trivial
theorem hd.tw15790720579355451973 : True := trivial
theorem hd.tw2887051446865420828 : True := trivial
theorem hd.tw3039998526598829958 : True := trivial
theorem hd.tw12112201142124510154 : True := trivial
theorem hd.tw6407587892757256292 : True := trivial
theorem hd.tw4494801613693538912 : True := trivial
theorem hd.tw3451239065008710300 : True := trivial
theorem hd.tw13790719812936386609 : True := trivial
theorem hd.tw9741134391959003819 : True := trivial
theorem hd.tw2386827423013361158 : True := trivial
theorem hd.tw17650839729002327288 : True := trivial
theorem hd.tw5987830557187376847 : True := trivial
theorem hd.tw15603535497565009323 : True := trivial
theorem hd.tw2930668341846507884 : True := trivial
theorem hd.tw7914949630228597729 : True := trivial
theorem hd.tw11128854368766332075 : True := trivial
theorem hd.tw6785817131721698500 : True := trivial
theorem hd.tw10246146449241189800 : True := trivial
theorem hd.tw6082411064634330575 : True := trivial
theorem hd.tw15967140613478806237 : True := trivial
theorem hd.tw1997569388931296116 : True := trivial
theorem hd.tw18343703819029505601 : True := trivial
theorem hd.tw6291416237084387574 : True := trivial
theorem hd.tw11232374478483605306 : True := trivial
theorem hd.tw13483081372092288885 : True := trivial
theorem hd.tw5373601922739893978 : True := trivial
theorem hd.tw2167537188350426706 : True := trivial
theorem hd.tw12647368939536790636 : True := trivial
theorem hd.tw6580447716519360249 : True := trivial
theorem hd.tw10949625832625181284 : True := trivial
theorem hd.tw5343241284826551009 : True := trivial
theorem hd.tw17177331786930743035 : True := trivial
theorem hd.tw17447410573909459338 : True := trivial
theorem hd.tw11465210709893060100 : True := trivial
theorem hd.tw15642763164714097627 : True := trivial
theorem hd.tw22551697357593593 : True := trivial
theorem hd.tw9641152695372364146 : True := trivial
theorem hd.tw2867327485932766208 : True := trivial
theorem hd.tw1011335219593555734 : True := trivial
theorem hd.tw17733724502801981806 : True := trivial
theorem hd.tw14103535550066685397 : True := trivial
theorem hd.tw9566141503761928105 : True := trivial
theorem hd.tw7289634563603522867 : True := trivial
theorem hd.tw4478166936697009375 : True := trivial
theorem hd.tw17714235663813219645 : True := trivial
theorem hd.tw11136197038861592535 : True := trivial
theorem hd.tw5961118342813265553 : True := trivial
theorem hd.tw10743916045514856203 : True := trivial
theorem hd.tw2101469004524951375 : True := trivial
theorem hd.tw13368278939475635651 : True := trivial
theorem hd.tw8343274005884668182 : True := trivial
theorem hd.tw17903497710992402801 : True := trivial
theorem hd.tw15385689974620563916 : True := trivial
theorem hd.tw18293732401869909652 : True := trivial
theorem hd.tw3229955645248102723 : True := trivial
theorem hd.tw10792051664901133789 : True := trivial
theorem hd.tw11652457597714270106 : True := trivial
theorem hd.tw7754304195085646258 : True := trivial
theorem hd.tw4014540891139286612 : True := trivial
theorem hd.tw16064382804478563927 : True := trivial
theorem hd.tw4272726840584523970 : True := trivial
theorem hd.tw2114630138375439770 : True := trivial
theorem hd.tw10424393626065333798 : True := trivial
theorem hd.tw13855881374063213867 : True := trivial
theorem hd.tw18322514126500204803 : True := trivial
theorem hd.tw14346525914970070588 : True := trivial
theorem hd.tw2442259710966052079 : True := trivial
theorem hd.tw16194383521188589630 : True := trivial
theorem hd.tw3259873300814134281 : True := trivial
theorem hd.tw189712035060473897 : True := trivial
theorem hd.tw9386895884608548742 : True := trivial
theorem hd.tw402640490398009360 : True := trivial
theorem hd.tw6123773746684550334 : True := trivial
theorem hd.tw13267510147771200024 : True := trivial
theorem hd.tw11054480109507316185 : True := trivial
theorem hd.tw2708950531961675432 : True := trivial
theorem hd.tw14560493823538711346 : True := trivial
theorem hd.tw6164396464334811476 : True := trivial
theorem hd.tw6442067068224118133 : True := trivial
theorem hd.tw2068664650715991707 : True := trivial
theorem hd.tw15103106377680225435 : True := trivial
theorem hd.tw9719896912496429819 : True := trivial
theorem hd.tw2274498078352570744 : True := trivial
theorem hd.tw11660266114150955751 : True := trivial
theorem hd.tw2216850387143573719 : True := trivial
theorem hd.tw7355570028127101125 : True := trivial
theorem hd.tw16904818350239718627 : True := trivial
theorem hd.tw4086058157674990017 : True := trivial
theorem hd.tw4851647983119433812 : True := trivial
theorem hd.tw5902613922787404954 : True := trivial
theorem hd.tw5781342201191254626 : True := trivial
theorem hd.tw11319892378374348655 : True := trivial
theorem hd.tw12271959270614036898 : True := trivial
theorem hd.tw6411954120941647267 : True := trivial
theorem hd.tw10525666975642140466 : True := trivial
theorem hd.tw16828841361933241965 : True := trivial
theorem hd.tw15089522573102190283 : True := trivial
theorem hd.tw11213053971927718326 : True := trivial
theorem hd.tw16722109127936396110 : True := trivial
theorem hd.tw11032806212648032379 : True := trivial
theorem hd.tw10018903625636563668 : True := trivial
theorem hd.tw3452082135128663414 : True := trivial
theorem hd.tw16091413853298234908 : True := trivial
theorem hd.tw12070051907170230399 : True := trivial
theorem hd.tw17950676927832955104 : True := trivial
theorem hd.tw9421340871869096474 : True := trivial
theorem hd.tw991583007596301734 : True := trivial
theorem hd.tw4402725079659364252 : True := trivial
theorem hd.tw2617190388676272812 : True := trivial
theorem hd.tw18093812233618175256 : True := trivial
theorem hd.tw9170477692918782315 : True := trivial
theorem hd.tw4115565904173853331 : True := trivial
theorem hd.tw4971549296188076032 : True := trivial
theorem hd.tw7296583596125217682 : True := trivial
theorem hd.tw13225837485096350037 : True := trivial
theorem hd.tw9345929723534960622 : True := trivial
theorem hd.tw2603259988358896889 : True := trivial
theorem hd.tw16634568088961857937 : True := trivial
theorem hd.tw15527848837575444561 : True := trivial
theorem hd.tw11953376511379268794 : True := trivial
theorem hd.tw18103342009636024947 : True := trivial
theorem hd.tw16007149819294483003 : True := trivial
theorem hd.tw1013155817946168525 : True := trivial
theorem hd.tw16259696140248634718 : True := trivial
theorem hd.tw4225703048834024713 : True := trivial
theorem hd.tw10170382586518783626 : True := trivial
theorem hd.tw3919010098100093602 : True := trivial
theorem hd.tw13770079208771991547 : True := trivial
theorem hd.tw15166520500009309586 : True := trivial
theorem hd.tw8117029840178788049 : True := trivial
theorem hd.tw15759970867653108152 : True := trivial
theorem hd.tw10603584201595350602 : True := trivial
theorem hd.tw1413172679324656950 : True := trivial
theorem hd.tw4015398097383911347 : True := trivial
theorem hd.tw6767318904944593275 : True := trivial
theorem hd.tw922143313871775805 : True := trivial
theorem hd.tw10784824025267889561 : True := trivial
theorem hd.tw9345676750909349944 : True := trivial
theorem hd.tw6394381022753523788 : True := trivial
theorem hd.tw14705683404202351889 : True := trivial
theorem hd.tw6293948785866598258 : True := trivial
theorem hd.tw15613223032667037191 : True := trivial
theorem hd.tw9659300254469076365 : True := trivial
theorem hd.tw1439246655266547700 : True := trivial
theorem hd.tw17062030032774818151 : True := trivial
theorem hd.tw10258999931320997221 : True := trivial
theorem hd.tw14246236162039180721 : True := trivial
theorem hd.tw12023040214023829324 : True := trivial
theorem hd.tw6196171512934965099 : True := trivial
theorem hd.tw6819123309680001836 : True := trivial
theorem hd.tw5278057926702712004 : True := trivial
theorem hd.tw16868993833207775613 : True := trivial
theorem hd.tw16945582573551092051 : True := trivial
theorem hd.tw8735263284916673568 : True := trivial
theorem hd.tw17893044597097874663 : True := trivial
theorem hd.tw14955159897011116063 : True := trivial
theorem hd.tw12901994302517312135 : True := trivial
theorem hd.tw16345102440705955213 : True := trivial
theorem hd.tw13919464512627920130 : True := trivial
theorem hd.tw17087091549796120035 : True := trivial
theorem hd.tw7752767780024739350 : True := trivial
theorem hd.tw9960721518486171458 : True := trivial
theorem hd.tw978945382295711627 : True := trivial
theorem hd.tw758273949599710562 : True := trivial
theorem hd.tw1129884963351977449 : True := trivial
theorem hd.tw8959176491354863721 : True := trivial
theorem hd.tw11917015161858427179 : True := trivial
theorem hd.tw8716120427605611371 : True := trivial
theorem hd.tw17975533764899295144 : True := trivial
theorem hd.tw1222794163293265305 : True := trivial
theorem hd.tw7120233287515763914 : True := trivial
theorem hd.tw6820862383352777685 : True := trivial
theorem hd.tw8112040973832200146 : True := trivial
theorem hd.tw9673543361469618366 : True := trivial
theorem hd.tw11210553801493137410 : True := trivial
theorem hd.tw15411387601460861337 : True := trivial
theorem hd.tw7028611270464810887 : True := trivial
theorem hd.tw15368132723985388332 : True := trivial
theorem hd.tw16432713993328977331 : True := trivial
theorem hd.tw14353793391729792155 : True := trivial
theorem hd.tw13518370688599389936 : True := trivial
theorem hd.tw1580110805410547442 : True := trivial
theorem hd.tw5130813555471234732 : True := trivial
theorem hd.tw17574625026820762457 : True := trivial
theorem hd.tw8268277133935991078 : True := trivial
theorem hd.tw701787995468756871 : True := trivial
theorem hd.tw6305734824756694309 : True := trivial
theorem hd.tw8458067239894703972 : True := trivial
theorem hd.tw6276725880618359904 : True := trivial
theorem hd.tw14168552714766633299 : True := trivial
theorem hd.tw17672654358674132775 : True := trivial
theorem hd.tw3026753882482905222 : True := trivial
theorem hd.tw10403243965636340961 : True := trivial
theorem hd.tw14727110085682223627 : True := trivial
theorem hd.tw15595854959937240912 : True := trivial
theorem hd.tw16056359734778111409 : True := trivial
theorem hd.tw12949589719889679912 : True := trivial
theorem hd.tw3673089383077640791 : True := trivial
theorem hd.tw11631947586910100387 : True := trivial
theorem hd.tw1800889605409440832 : True := trivial
theorem hd.tw535892090144202126 : True := trivial
theorem hd.tw12936449754285732098 : True := trivial
theorem hd.tw4360684699965382250 : True := trivial
theorem hd.tw6545403380812914513 : True := trivial
theorem hd.tw9748044761591592747 : True := trivial
theorem hd.tw3759623122121258479 : True := trivial
theorem hd.tw2195365466389143174 : True := trivial
theorem hd.tw1760603350576429475 : True := trivial
theorem hd.tw16037735763661986305 : True := trivial
theorem hd.tw1097998534492414930 : True := trivial
theorem hd.tw3493717111155160527 : True := trivial
theorem hd.tw15529170255622000948 : True := trivial
theorem hd.tw7540655947842036084 : True := trivial
theorem hd.tw8226494294326810461 : True := trivial
theorem hd.tw15833661619300960221 : True := trivial
theorem hd.tw18264374347568628810 : True := trivial
theorem hd.tw17681399029576232318 : True := trivial
theorem hd.tw5657824000916062451 : True := trivial
theorem hd.tw5567388512258382067 : True := trivial
theorem hd.tw11162318198679636149 : True := trivial
theorem hd.tw7023726343779634624 : True := trivial
theorem hd.tw3571134770919094901 : True := trivial
theorem hd.tw7155415327029175403 : True := trivial
theorem hd.tw13330244855972007585 : True := trivial
set_option maxHeartbeats 8000000 in
set_option Elab.async true in
theorem hd : PySem.Challenge.rw_pq1073_01.Holds := by
  w_on
  o_law
  o_head (kHook frK kAs kAs_eq)
  case hw => w_witness2
  exact walk _ _ _ (by kernel_rfl) rfl
end Mine
theorem PySem.Challenge.cw_pq1073_01_holds : PySem.Challenge.rw_pq1073_01.Holds :=
  Mine.hd

