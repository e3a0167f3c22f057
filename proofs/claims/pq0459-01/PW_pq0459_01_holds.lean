import PyProof.Rows.All
import Wide.All
import OpenK.AllK
import Wide.FinOn
import Lean
import PySem.Challenge.RW_pq0459_01
open PySem PySem.W PyProof.Rows PySem.Calls
set_option Elab.async false
set_option maxRecDepth 100000
set_option maxHeartbeats 8000000
namespace Mine
/-! K0 -/
/-! what of the heap behind the top is read: the text's defs by their place in the text -/
noncomputable def sAt (i : Nat) : Stmt := (PySem.Challenge.rw_pq0459_01.prog.main.body).getD i (.Pass ⟨0, 0, 0, 0⟩)
noncomputable def mAt (i j : Nat) : Stmt := match sAt i with
  | .ClassDef _ _ _ b _ _ _ _ _ _ _ => b.getD j (.Pass ⟨0, 0, 0, 0⟩)
  | s => s
noncomputable def fo (st : Stmt) (qual : String) (dV : Value) (md : String) (mt : Nat) (c : Addr) : Obj := match st with
  | .FunctionDef name params body _ _ _ scope _ _ _ => { cls := .type "function", data := .func { name := name, qualname := Str.ofString qual, params := params, body := .stmts body, scope := scope, globals := 3, closure := [], defaults := dV, kwdefaults := .none, pyModule := .str (Str.ofString md) mt, code := .ref c } }
  | _ => { cls := .none }
noncomputable abbrev en (P : Params) (x : String) (t : Nat) (v : Value) : DictEntry := { hash := PyData.keyHash P (Str.ofString x), key := .str (Str.ofString x) t, val := v }
noncomputable def cut (t : Nat) : Value := .str (Str.ofString "/claim/cut.py") t
noncomputable def co (fs : Array Value) : Obj := { cls := .type "code", data := .fields fs }
noncomputable def hK (P : Params) : Frag := [
  (3, { cls := .type "dict", data := Data.dict #[en P "__name__" 165 (.str (Str.ofString "law_pq0459_01") 625), en P "__doc__" 166 (.none), en P "__package__" 167 (.none), en P "__loader__" 168 (.builtin "__main__.__loader__#opaque"), en P "__spec__" 169 (.none), en P "__annotations__" 170 (.ref 6), en P "__builtins__" 171 (.ref 4), en P "__file__" 173 (cut 172), en P "__cached__" 174 (.none), en P "_wall" 193 (.ref 21), en P "Wires" 254 (.ref 52), en P "cell_ins" 266 (.ref 63), en P "row_ins" 275 (.ref 70), en P "integer_nets" 286 (.ref 77), en P "needed_integers" 309 (.ref 84), en P "kept_rows" 324 (.ref 91), en P "Signal" 410 (.ref 143), en P "Design" 510 (.ref 206), en P "is_state_kind" 519 (.ref 217), en P "Netlist" 624 (.ref 290), en P "_law_marbles" 637 (.ref 301), en P "_law_marble" 645 (.ref 308), en P "_law_built" 651 (.ref 313), en P "_law_plain_integer" 659 (.ref 320), en P "_law_taken" 666 (.ref 327), en P "_law_needed" 672 (.ref 332), en P "law" 678 (.ref 337)] 27 }),
  (34, co #[.str (Str.ofString "__init__") 208, .str (Str.ofString "Wires.__init__") 209, cut 210, .int 7 0, .int 1 0, .int 0 0, .int 0 0, .int 3 0, .ref 29, .bool true, .int 181 0, .ref 30, .none, .ref 31, .ref 32, .ref 33, .int 212 0, .int 7 0, cut 213]),
  (35, fo (mAt 2 0) "Wires.__init__" (Value.none) "gateloom.synthwires" 194 34),
  (41, co #[.str (Str.ofString "drive") 215, .str (Str.ofString "Wires.drive") 216, cut 217, .int 18 0, .int 4 0, .int 0 0, .int 0 0, .int 3 0, .ref 36, .bool true, .int 181 0, .ref 37, .none, .ref 38, .ref 39, .ref 40, .int 223 0, .int 18 0, cut 224]),
  (42, fo (mAt 2 1) "Wires.drive" (Value.none) "gateloom.synthwires" 194 41),
  (51, { cls := .type "dict", data := Data.dict #[en P "__module__" 203 (.str (Str.ofString "gateloom.synthwires") 194), en P "__firstlineno__" 207 (.int 5 206), en P "__init__" 214 (.ref 35), en P "drive" 225 (.ref 42), en P "pull" 237 (.ref 49), en P "__static_attributes__" 247 (.ref 50), en P "__dict__" 249 (.ref 53), en P "__weakref__" 251 (.ref 54), en P "__doc__" 252 (.none)] 4 }),
  (52, { cls := .type "type", data := Data.cls { name := Str.ofString "Wires", bases := [.type "object"], mro := [.ref 52, .type "object"], ns := 51, qualname := Str.ofString "Wires" }, slots := #[none, none, some (.str (Str.ofString "Wires") 196), some (.str (Str.ofString "Wires") 204), some (.builtin "object.__new__"), some (.bool true)] }),
  (62, co #[.str (Str.ofString "cell_ins") 255, .str (Str.ofString "cell_ins") 256, cut 257, .int 31 0, .int 1 0, .int 0 0, .int 0 0, .int 3 0, .ref 57, .bool true, .int 181 0, .ref 58, .none, .ref 59, .ref 60, .ref 61, .int 264 0, .int 31 0, cut 265]),
  (63, fo (sAt 3) "cell_ins" (Value.none) "gateloom.synthwires" 194 62),
  (69, co #[.str (Str.ofString "row_ins") 269, .str (Str.ofString "row_ins") 270, cut 271, .int 37 0, .int 1 0, .int 0 0, .int 0 0, .int 3 0, .ref 64, .bool true, .int 181 0, .ref 65, .none, .ref 66, .ref 67, .ref 68, .int 273 0, .int 37 0, cut 274]),
  (70, fo (sAt 5) "row_ins" (Value.none) "gateloom.synthmod" 267 69),
  (76, co #[.str (Str.ofString "integer_nets") 276, .str (Str.ofString "integer_nets") 277, cut 278, .int 41 0, .int 2 0, .int 0 0, .int 0 0, .int 3 0, .ref 71, .bool true, .int 181 0, .ref 72, .none, .ref 73, .ref 74, .ref 75, .int 284 0, .int 41 0, cut 285]),
  (77, fo (sAt 6) "integer_nets" (Value.none) "gateloom.synthmod" 267 76),
  (83, co #[.str (Str.ofString "needed_integers") 287, .str (Str.ofString "needed_integers") 288, cut 289, .int 48 0, .int 4 0, .int 0 0, .int 0 0, .int 3 0, .ref 78, .bool true, .int 181 0, .ref 79, .none, .ref 80, .ref 81, .ref 82, .int 307 0, .int 48 0, cut 308]),
  (84, fo (sAt 7) "needed_integers" (Value.none) "gateloom.synthmod" 267 83),
  (90, co #[.str (Str.ofString "kept_rows") 310, .str (Str.ofString "kept_rows") 311, cut 312, .int 75 0, .int 4 0, .int 0 0, .int 0 0, .int 3 0, .ref 85, .bool true, .int 181 0, .ref 86, .none, .ref 87, .ref 88, .ref 89, .int 322 0, .int 75 0, cut 323]),
  (91, fo (sAt 8) "kept_rows" (Value.none) "gateloom.synthmod" 267 90),
  (104, co #[.str (Str.ofString "__init__") 339, .str (Str.ofString "Signal.__init__") 340, cut 341, .int 87 0, .int 8 0, .int 0 0, .int 0 0, .int 3 0, .ref 99, .bool true, .int 181 0, .ref 100, .none, .ref 101, .ref 102, .ref 103, .int 350 0, .int 87 0, cut 351]),
  (105, fo (mAt 10 0) "Signal.__init__" (Value.none) "gateloom.design" 325 104),
  (118, co #[.str (Str.ofString "is_memory") 360, .str (Str.ofString "Signal.is_memory") 361, cut 362, .int 104 0, .int 1 0, .int 0 0, .int 0 0, .int 3 0, .ref 113, .bool true, .int 181 0, .ref 114, .none, .ref 115, .ref 116, .ref 117, .int 364 0, .int 104 0, cut 365]),
  (119, fo (mAt 10 2) "Signal.is_memory" (Value.none) "gateloom.design" 325 118),
  (142, { cls := .type "dict", data := Data.dict #[en P "__module__" 334 (.str (Str.ofString "gateloom.design") 325), en P "__firstlineno__" 338 (.int 85 337), en P "__init__" 352 (.ref 105), en P "is_net" 359 (.ref 112), en P "is_memory" 366 (.ref 119), en P "words" 373 (.ref 126), en P "offset" 381 (.ref 133), en P "place" 390 (.ref 140), en P "__static_attributes__" 403 (.ref 141), en P "__dict__" 405 (.ref 144), en P "__weakref__" 407 (.ref 145), en P "__doc__" 408 (.none)] 4 }),
  (143, { cls := .type "type", data := Data.cls { name := Str.ofString "Signal", bases := [.type "object"], mro := [.ref 143, .type "object"], ns := 142, qualname := Str.ofString "Signal" }, slots := #[none, none, some (.str (Str.ofString "Signal") 327), some (.str (Str.ofString "Signal") 335), some (.builtin "object.__new__"), some (.bool true)] }),
  (160, co #[.str (Str.ofString "__init__") 423, .str (Str.ofString "Design.__init__") 424, cut 425, .int 127 0, .int 1 0, .int 0 0, .int 0 0, .int 3 0, .ref 155, .bool true, .int 181 0, .ref 156, .none, .ref 157, .ref 158, .ref 159, .int 427 0, .int 127 0, cut 428]),
  (161, fo (mAt 11 0) "Design.__init__" (Value.none) "gateloom.design" 325 160),
  (167, co #[.str (Str.ofString "add_signal") 430, .str (Str.ofString "Design.add_signal") 431, cut 432, .int 141 0, .int 8 0, .int 0 0, .int 0 0, .int 3 0, .ref 162, .bool true, .int 181 0, .ref 163, .none, .ref 164, .ref 165, .ref 166, .int 442 0, .int 141 0, cut 443]),
  (168, fo (mAt 11 1) "Design.add_signal" (Value.none) "gateloom.design" 325 167),
  (205, { cls := .type "dict", data := Data.dict #[en P "__module__" 418 (.str (Str.ofString "gateloom.design") 325), en P "__firstlineno__" 422 (.int 125 421), en P "__init__" 429 (.ref 161), en P "add_signal" 444 (.ref 168), en P "add_scope" 452 (.ref 175), en P "add_routine" 463 (.ref 182), en P "add_process" 474 (.ref 189), en P "find" 482 (.ref 196), en P "routine" 490 (.ref 203), en P "__static_attributes__" 503 (.ref 204), en P "__dict__" 505 (.ref 207), en P "__weakref__" 507 (.ref 208), en P "__doc__" 508 (.none)] 4 }),
  (206, { cls := .type "type", data := Data.cls { name := Str.ofString "Design", bases := [.type "object"], mro := [.ref 206, .type "object"], ns := 205, qualname := Str.ofString "Design" }, slots := #[none, none, some (.str (Str.ofString "Design") 411), some (.str (Str.ofString "Design") 419), some (.builtin "object.__new__"), some (.bool true)] }),
  (230, co #[.str (Str.ofString "__init__") 532, .str (Str.ofString "Netlist.__init__") 533, cut 534, .int 167 0, .int 2 0, .int 0 0, .int 0 0, .int 3 0, .ref 225, .bool true, .int 181 0, .ref 226, .none, .ref 227, .ref 228, .ref 229, .int 537 0, .int 167 0, cut 538]),
  (231, fo (mAt 14 0) "Netlist.__init__" (Value.none) "gateloom.netlist" 511 230),
  (237, co #[.str (Str.ofString "new_net") 540, .str (Str.ofString "Netlist.new_net") 541, cut 542, .int 174 0, .int 1 0, .int 0 0, .int 0 0, .int 3 0, .ref 232, .bool true, .int 181 0, .ref 233, .none, .ref 234, .ref 235, .ref 236, .int 545 0, .int 174 0, cut 546]),
  (238, fo (mAt 14 1) "Netlist.new_net" (Value.none) "gateloom.netlist" 511 237),
  (242, co #[.str (Str.ofString "new_nets") 548, .str (Str.ofString "Netlist.new_nets") 549, cut 550, .int 179 0, .int 2 0, .int 0 0, .int 0 0, .int 3 0, .ref 239, .bool true, .int 181 0, .ref 240, .none, .none, .none, .ref 241, .int 551 0, .int 179 0, cut 552]),
  (243, fo (mAt 14 2) "Netlist.new_nets" (Value.none) "gateloom.netlist" 511 242),
  (258, { cls := .type "tuple", data := Data.seq #[.none] }),
  (264, co #[.str (Str.ofString "add_cell") 572, .str (Str.ofString "Netlist.add_cell") 573, cut 574, .int 188 0, .int 4 0, .int 0 0, .int 0 0, .int 3 0, .ref 259, .bool true, .int 181 0, .ref 260, .none, .ref 261, .ref 262, .ref 263, .int 580 0, .int 188 0, cut 581]),
  (265, fo (mAt 14 5) "Netlist.add_cell" (Value.ref 258) "gateloom.netlist" 511 264),
  (266, { cls := .type "tuple", data := Data.seq #[.none] }),
  (272, co #[.str (Str.ofString "drive") 583, .str (Str.ofString "Netlist.drive") 584, cut 585, .int 193 0, .int 5 0, .int 0 0, .int 0 0, .int 3 0, .ref 267, .bool true, .int 181 0, .ref 268, .none, .ref 269, .ref 270, .ref 271, .int 591 0, .int 193 0, cut 592]),
  (273, fo (mAt 14 6) "Netlist.drive" (Value.ref 266) "gateloom.netlist" 511 272),
  (289, { cls := .type "dict", data := Data.dict #[en P "__module__" 527 (.str (Str.ofString "gateloom.netlist") 511), en P "__firstlineno__" 531 (.int 165 530), en P "__init__" 539 (.ref 231), en P "new_net" 547 (.ref 238), en P "new_nets" 553 (.ref 243), en P "add_input" 562 (.ref 250), en P "add_output" 571 (.ref 257), en P "add_cell" 582 (.ref 265), en P "drive" 593 (.ref 273), en P "sources" 604 (.ref 280), en P "sinks" 611 (.ref 287), en P "__static_attributes__" 617 (.ref 288), en P "__dict__" 619 (.ref 291), en P "__weakref__" 621 (.ref 292), en P "__doc__" 622 (.none)] 4 }),
  (290, { cls := .type "type", data := Data.cls { name := Str.ofString "Netlist", bases := [.type "object"], mro := [.ref 290, .type "object"], ns := 289, qualname := Str.ofString "Netlist" }, slots := #[none, none, some (.str (Str.ofString "Netlist") 520), some (.str (Str.ofString "Netlist") 528), some (.builtin "object.__new__"), some (.bool true)] }),
  (300, co #[.str (Str.ofString "_law_marbles") 627, .str (Str.ofString "_law_marbles") 628, cut 629, .int 208 0, .int 1 0, .int 0 0, .int 0 0, .int 3 0, .ref 295, .bool true, .int 181 0, .ref 296, .none, .ref 297, .ref 298, .ref 299, .int 635 0, .int 208 0, cut 636]),
  (301, fo (sAt 16) "_law_marbles" (Value.none) "law_pq0459_01" 625 300),
  (307, co #[.str (Str.ofString "_law_marble") 638, .str (Str.ofString "_law_marble") 639, cut 640, .int 218 0, .int 2 0, .int 0 0, .int 0 0, .int 3 0, .ref 302, .bool true, .int 181 0, .ref 303, .none, .ref 304, .ref 305, .ref 306, .int 643 0, .int 218 0, cut 644]),
  (308, fo (sAt 17) "_law_marble" (Value.none) "law_pq0459_01" 625 307),
  (312, co #[.str (Str.ofString "_law_built") 646, .str (Str.ofString "_law_built") 647, cut 648, .int 220 0, .int 1 0, .int 0 0, .int 0 0, .int 3 0, .ref 309, .bool true, .int 181 0, .ref 310, .none, .none, .none, .ref 311, .int 649 0, .int 220 0, cut 650]),
  (313, fo (sAt 18) "_law_built" (Value.none) "law_pq0459_01" 625 312),
  (319, co #[.str (Str.ofString "_law_plain_integer") 652, .str (Str.ofString "_law_plain_integer") 653, cut 654, .int 247 0, .int 2 0, .int 0 0, .int 0 0, .int 3 0, .ref 314, .bool true, .int 181 0, .ref 315, .none, .ref 316, .ref 317, .ref 318, .int 657 0, .int 247 0, cut 658]),
  (320, fo (sAt 19) "_law_plain_integer" (Value.none) "law_pq0459_01" 625 319),
  (326, co #[.str (Str.ofString "_law_taken") 660, .str (Str.ofString "_law_taken") 661, cut 662, .int 249 0, .int 1 0, .int 0 0, .int 0 0, .int 3 0, .ref 321, .bool true, .int 181 0, .ref 322, .none, .ref 323, .ref 324, .ref 325, .int 664 0, .int 249 0, cut 665]),
  (327, fo (sAt 20) "_law_taken" (Value.none) "law_pq0459_01" 625 326),
  (331, co #[.str (Str.ofString "_law_needed") 667, .str (Str.ofString "_law_needed") 668, cut 669, .int 251 0, .int 4 0, .int 0 0, .int 0 0, .int 3 0, .ref 328, .bool true, .int 181 0, .ref 329, .none, .none, .none, .ref 330, .int 670 0, .int 251 0, cut 671]),
  (332, fo (sAt 21) "_law_needed" (Value.none) "law_pq0459_01" 625 331),
  (336, co #[.str (Str.ofString "law") 673, .str (Str.ofString "law") 674, cut 675, .int 278 0, .int 1 0, .int 0 0, .int 0 0, .int 3 0, .ref 333, .bool true, .int 181 0, .ref 334, .none, .none, .none, .ref 335, .int 676 0, .int 278 0, cut 677]),
  (337, fo (sAt 22) "law" (Value.none) "law_pq0459_01" 625 336)]
noncomputable def hA : List Addr := [3, 34, 35, 41, 42, 51, 52, 62, 63, 69, 70, 76, 77, 83, 84, 90, 91, 104, 105, 118, 119, 142, 143, 160, 161, 167, 168, 205, 206, 230, 231, 237, 238, 242, 243, 258, 264, 265, 266, 272, 273, 289, 290, 300, 301, 307, 308, 312, 313, 319, 320, 326, 327, 331, 332, 336, 337]
/-! K1 -/
noncomputable def kept : List Nat := [0, 2, 3, 5, 6, 7, 8, 10, 11, 13, 14, 16, 17, 18, 19, 20, 21, 22]
noncomputable def vW : Program := { PySem.Challenge.rw_pq0459_01.prog with main := { PySem.Challenge.rw_pq0459_01.prog.main with body := kept.map sAt } }
theorem hAs : ∀ P, hA = (hK P).map (·.1) := fun P => by kernel_rfl
noncomputable abbrev hH : Hook := kHook hK hA hAs
theorem left : LeftO PySem.Challenge.rw_pq0459_01.prog vW [] (fun s => xlAt vW [] s && recOk [] s) (Hook.obs hH) (Hook.val hH) 4336 := fun w => by kernel_rfl
/-! B0 -/
abbrev PG : Program := PySem.Challenge.rw_pq0459_01.row.prog
abbrev MM (w : World) : Model := model PG w
noncomputable abbrev KK (w : World) : Frag := hK w.params

/-- the state: everything but heap and marks as it was -/
def S (s₀ : Shared) (h : Heap) (tk : Nat) : Shared := { s₀ with heap := h, toks := tk }

/-- a name among the frame's, with its value -/
inductive At : List Str → List (Option Value) → Str → Value → Prop
  | head {x : Str} {nm : List Str} {v : Value} {vs : List (Option Value)} : At (x :: nm) (some v :: vs) x v
  | tail {x y : Str} {nm : List Str} {v : Value} {u : Option Value} {vs : List (Option Value)} : At nm vs x v → At (y :: nm) (u :: vs) x v
inductive Put : List Str → List (Option Value) → Str → Value → List (Option Value) → Prop
  | head {x : Str} {nm : List Str} {v : Value} {u : Option Value} {vs : List (Option Value)} : Put (x :: nm) (u :: vs) x v (some v :: vs)
  | tail {x y : Str} {nm : List Str} {v : Value} {u : Option Value} {vs vs' : List (Option Value)} : Put nm vs x v vs' → Put (y :: nm) (u :: vs) x v (u :: vs')
theorem At.mem {nm : List Str} {vs : List (Option Value)} {x : Str} {v : Value} (h : At nm vs x v) : x ∈ nm := by
  induction h with
  | head => exact .head _
  | tail _ ih => exact .tail _ ih
theorem Put.mem {nm : List Str} {vs vs' : List (Option Value)} {x : Str} {v : Value} (h : Put nm vs x v vs') : x ∈ nm := by
  induction h with
  | head => exact .head _
  | tail _ ih => exact .tail _ ih
theorem Put.at_ {nm : List Str} {vs vs' : List (Option Value)} {x : Str} {v : Value} (h : Put nm vs x v vs') (hn : nm.Nodup) {y : Str} {u : Value} (a : At nm vs' y u) : (y = x ∧ u = v) ∨ (y ≠ x ∧ At nm vs y u) := by
  induction h with
  | head =>
    cases a with
    | head => exact .inl ⟨rfl, rfl⟩
    | tail a =>
      refine .inr ⟨fun e => ?_, .tail a⟩
      subst e
      exact (List.nodup_cons.mp hn).1 a.mem
  | tail p ih =>
    cases a with
    | head =>
      refine .inr ⟨fun e => ?_, .head⟩
      subst e
      exact (List.nodup_cons.mp hn).1 p.mem
    | tail a =>
      rcases ih (List.nodup_cons.mp hn).2 a with h | ⟨h1, h2⟩
      · exact .inl h
      · exact .inr ⟨h1, .tail h2⟩

abbrev Gh := Addr → Option Obj
/-- G tells what stays, σ what the frame owns -/
structure Mem (G : Gh) (L : Addr) (nm : List Str) (vs : List (Option Value)) (σ : List (Addr × Obj)) (h : Heap) : Prop where
  ns : ∃ m, h.Ns L m ∧ ∀ x v, At nm vs x v → m x = some v
  keep : ∀ b o, G b = some o → h.get? b = some o
  own : ∀ p ∈ σ, h.get? p.1 = some p.2
  off : ∀ p ∈ σ, p.1 ≠ L ∧ G p.1 = none
  nd : (σ.map (·.1)).Nodup
  loc : G L = none
  nmnd : nm.Nodup

section
variable {G : Gh} {L : Addr} {nm : List Str} {vs vs' : List (Option Value)} {σ σ' : List (Addr × Obj)} {h h' : Heap}

theorem Mem.get (D : Mem G L nm vs σ h) {a : Addr} {o : Obj} (m : (a, o) ∈ σ) : h.get? a = some o := D.own _ m
theorem Mem.lt (D : Mem G L nm vs σ h) {p : Addr × Obj} (m : p ∈ σ) : p.1 < h.objs.size := Heap.lt_size (D.own p m)
theorem Mem.ltL (D : Mem G L nm vs σ h) : L < h.objs.size := let ⟨_, n, _⟩ := D.ns; n.lt

/-- what a change that keeps G and the frame's names leaves -/
theorem Mem.change (D : Mem G L nm vs σ h) (hL : ∀ o, h.get? L = some o → h'.get? L = some o) (hk : ∀ b o, G b = some o → h.get? b = some o → h'.get? b = some o)
    (own : ∀ p ∈ σ', h'.get? p.1 = some p.2) (off : ∀ p ∈ σ', p.1 ≠ L ∧ G p.1 = none) (nd : (σ'.map (·.1)).Nodup) : Mem G L nm vs σ' h' where
  ns := let ⟨m, n, a⟩ := D.ns; ⟨m, n.at' hL, a⟩
  keep := fun b o e => hk b o e (D.keep b o e)
  own := own
  off := off
  nd := nd
  loc := D.loc
  nmnd := D.nmnd

theorem Mem.push (D : Mem G L nm vs σ h) (o : Obj) (hf : o.isFreed = false := by rfl) : Mem G L nm vs ((h.objs.size, o) :: σ) (h.push o) := by
  refine D.change (fun _ e => Heap.get?_push_of_some o e) (fun b ob _ e => Heap.get?_push_of_some o e) ?_ ?_ ?_
  · intro p hp
    rcases List.mem_cons.mp hp with rfl | hp
    · exact Heap.get?_push_size _ hf
    · exact Heap.get?_push_of_some _ (D.own p hp)
  · intro p hp
    rcases List.mem_cons.mp hp with rfl | hp
    · refine ⟨Nat.ne_of_gt D.ltL, ?_⟩
      cases q : G h.objs.size with
      | none => rfl
      | some ob => exact absurd (Heap.lt_size (D.keep _ _ q)) (Nat.lt_irrefl _)
    · exact D.off p hp
  · refine List.nodup_cons.mpr ⟨fun hm => ?_, D.nd⟩
    obtain ⟨p, hp, e⟩ := List.mem_map.mp hm
    exact absurd (D.lt hp) (by rw [e]; exact Nat.lt_irrefl _)

/-- one object of σ turned -/
inductive Rep (a : Addr) (o o' : Obj) : List (Addr × Obj) → List (Addr × Obj) → Prop
  | head {r} : Rep a o o' ((a, o) :: r) ((a, o') :: r)
  | tail {p r r'} : Rep a o o' r r' → Rep a o o' (p :: r) (p :: r')
theorem Rep.mem {a : Addr} {o o' : Obj} (r : Rep a o o' σ σ') : (a, o) ∈ σ := by
  induction r with
  | head => exact .head _
  | tail _ ih => exact .tail _ ih
theorem Rep.mem' {a : Addr} {o o' : Obj} (r : Rep a o o' σ σ') : (a, o') ∈ σ' := by
  induction r with
  | head => exact .head _
  | tail _ ih => exact .tail _ ih
theorem Rep.adr {a : Addr} {o o' : Obj} (r : Rep a o o' σ σ') : σ'.map (·.1) = σ.map (·.1) := by
  induction r with
  | head => rfl
  | tail _ ih => simp only [List.map_cons, ih]
theorem Rep.cases_ {a : Addr} {o o' : Obj} (r : Rep a o o' σ σ') (hn : (σ.map (·.1)).Nodup) : ∀ p ∈ σ', p = (a, o') ∨ (p.1 ≠ a ∧ p ∈ σ) := by
  induction r with
  | head =>
    intro p hp
    rcases List.mem_cons.mp hp with rfl | hp
    · exact .inl rfl
    · refine .inr ⟨fun e => ?_, .tail _ hp⟩
      exact (List.nodup_cons.mp hn).1 (List.mem_map.mpr ⟨p, hp, e⟩)
  | @tail q r r' t ih =>
    intro p hp
    rcases List.mem_cons.mp hp with rfl | hp
    · refine .inr ⟨fun e => ?_, .head _⟩
      exact (List.nodup_cons.mp hn).1 (List.mem_map.mpr ⟨_, t.mem, e.symm⟩)
    · rcases ih (List.nodup_cons.mp hn).2 p hp with h | ⟨h1, h2⟩
      · exact .inl h
      · exact .inr ⟨h1, .tail _ h2⟩

theorem Mem.same (D : Mem G L nm vs σ h) {a : Addr} {o o' : Obj} (r : Rep a o o' σ σ') (hs : Heap.SameBut a h h') (e : h'.get? a = some o') : Mem G L nm vs σ' h' := by
  have ha := D.off _ r.mem
  refine D.change (fun ob e' => (hs.2 L (Ne.symm ha.1)).trans e') (fun b ob g e' => (hs.2 b fun q => ?_).trans e') ?_ ?_ (by rw [r.adr]; exact D.nd)
  · subst q; rw [ha.2] at g; cases g
  · intro p hp
    rcases r.cases_ D.nd p hp with rfl | ⟨h1, h2⟩
    · exact e
    · exact (hs.2 _ h1).trans (D.own p h2)
  · intro p hp
    rcases r.cases_ D.nd p hp with rfl | ⟨h1, h2⟩
    · exact ha
    · exact D.off p h2

theorem Mem.update (D : Mem G L nm vs σ h) {a : Addr} {o o' : Obj} (r : Rep a o o' σ σ') (f : Obj → Obj) (e : f o = o') (hf : o'.isFreed = false := by rfl) : Mem G L nm vs σ' (h.update a f) :=
  D.same r (Heap.SameBut.update ..) (by rw [Heap.get?_update_self f (D.get r.mem) (by rw [e]; exact hf), e])

/-- the frame's own name stored -/
theorem Mem.store (D : Mem G L nm vs σ h) {x : Str} {v : Value} {m : Str → Option Value} (p : Put nm vs x v vs') (hm : h.Ns L m ∧ ∀ x v, At nm vs x v → m x = some v)
    (hn : h'.Ns L (fun y => if y = x then some v else m y)) (hs : Heap.SameBut L h h') : Mem G L nm vs' σ h' where
  ns := ⟨_, hn, fun y u a => by
    rcases p.at_ D.nmnd a with ⟨rfl, rfl⟩ | ⟨h1, h2⟩
    · exact if_pos rfl
    · rw [if_neg h1]; exact hm.2 _ _ h2⟩
  keep := fun b o e => (hs.2 b fun q => by subst q; rw [D.loc] at e; cases e).trans (D.keep b o e)
  own := fun p hp => (hs.2 p.1 (D.off p hp).1).trans (D.own p hp)
  off := D.off
  nd := D.nd
  loc := D.loc
  nmnd := D.nmnd

/-- σ as a set: any list of its members without a double -/
theorem Mem.sub (D : Mem G L nm vs σ h) (hs : ∀ p ∈ σ', p ∈ σ) (nd : (σ'.map (·.1)).Nodup) : Mem G L nm vs σ' h :=
  D.change (fun _ e => e) (fun _ _ _ e => e) (fun p hp => D.own p (hs p hp)) (fun p hp => D.off p (hs p hp)) nd
theorem Mem.tail {p : Addr × Obj} (D : Mem G L nm vs (p :: σ) h) : Mem G L nm vs σ h := D.sub (fun _ hq => .tail _ hq) (List.nodup_cons.mp D.nd).2
/-- values forgotten -/
theorem Mem.forget (D : Mem G L nm vs σ h) (hv : ∀ x v, At nm vs' x v → At nm vs x v) : Mem G L nm vs' σ h where
  ns := let ⟨m, n, a⟩ := D.ns; ⟨m, n, fun x v q => a x v (hv x v q)⟩
  keep := D.keep
  own := D.own
  off := D.off
  nd := D.nd
  loc := D.loc
  nmnd := D.nmnd

/-- what is known of a heap: G or σ tells -/
def Knows (G : Gh) (σ : List (Addr × Obj)) (a : Addr) (o : Obj) : Prop := G a = some o ∨ (a, o) ∈ σ
theorem Mem.knows (D : Mem G L nm vs σ h) {a : Addr} {o : Obj} (k : Knows G σ a o) : h.get? a = some o := k.elim (D.keep a o) D.get

/-- what a call keeps: all but W -/
def Keep (W : List Addr) (h h' : Heap) : Prop := ∀ b o, h.get? b = some o → b ∉ W → h'.get? b = some o
theorem Keep.refl {W : List Addr} (h : Heap) : Keep W h h := fun _ _ e _ => e
theorem Keep.trans {W : List Addr} {h h' h'' : Heap} (x : Keep W h h') (y : Keep W h' h'') : Keep W h h'' := fun b o e n => y b o (x b o e n) n
theorem Keep.nil {W : List Addr} {h h' : Heap} (x : Keep [] h h') : Keep W h h' := fun b o e _ => x b o e (fun q => nomatch q)
end
/-! B1 -/
def F0 : Value → Shared → Prop := fun _ _ => False

/-- what every frame stands on -/
structure Gnd (w : World) (G : Gh) : Prop where
  X : ∀ a o, (KK w).lookup a = some o → G a = some o
  b : ∃ o es ep, G builtinsNs = some o ∧ o.data = .dict es ep ∧ StrKeys es ∧ ∀ x : Str, x ≠ "__name__" → nsFind es x = bootBuiltins x
  lim : ∃ o es ep, G cStatics = some o ∧ o.data = .dict es ep ∧ StrKeys es ∧ nsFind es "sys.recursionlimit" = none
  seer : ∀ h : Heap, (∀ b o, G b = some o → h.get? b = some o) → h.NoSeer
theorem Gnd.mono {w : World} {G G' : Gh} (Γ : Gnd w G) (k : ∀ b o, G b = some o → G' b = some o) : Gnd w G' :=
  ⟨fun a o e => k a o (Γ.X a o e), let ⟨o, es, ep, a, r⟩ := Γ.b; ⟨o, es, ep, k _ _ a, r⟩, let ⟨o, es, ep, a, r⟩ := Γ.lim; ⟨o, es, ep, k _ _ a, r⟩, fun h e => Γ.seer h fun b o z => e b o (k b o z)⟩
section
variable {w : World} {G : Gh} {h : Heap} (Γ : Gnd w G) (k : ∀ b o, G b = some o → h.get? b = some o)
include Γ k
theorem Gnd.kin : (KK w).In h := fun a o e => k a o (Γ.X a o e)
theorem Gnd.blt : ∃ mb, h.Ns builtinsNs mb ∧ ∀ x : Str, x ≠ "__name__" → mb x = bootBuiltins x :=
  let ⟨o, es, ep, a, d, sk, r⟩ := Γ.b; ⟨fun x => nsFind es x, ⟨o, es, ep, k _ _ a, d, sk, fun _ => rfl⟩, r⟩
theorem Gnd.nolimit : h.NoLimit :=
  let ⟨o, es, ep, a, d, sk, r⟩ := Γ.lim; ⟨fun x => nsFind es x, ⟨o, es, ep, k _ _ a, d, sk, fun _ => rfl⟩, r⟩
end
theorem gnd_of_top {w : World} {h : Heap} {p : Program} {loose : List Str} {mean : ExcName → Option Value} {mg mb : Str → Option Value} (X : (KK w).In h) (T : Top p loose mean mg mb h) (N : h.NoSeer) : Gnd w h.get? where
  X := X
  b := let ⟨o, es, ep, a, d, sk, r⟩ := T.b; ⟨o, es, ep, a, d, sk, fun x hx => (r x).trans (T.builtins x hx)⟩
  lim := let ⟨mc, ⟨o, es, ep, a, d, sk, r⟩, q⟩ := T.nolimit; ⟨o, es, ep, a, d, sk, (r _).trans q⟩
  seer := fun h' k => N.keeps k

/-- room for n calls, one in the other -/
structure Room (A : Around) (n : Nat) : Prop where
  hd : A.handled = none
  depth : A.depth + n < 1000
  units : A.units + 8 * n < 9900
theorem Room.deeper {A : Around} {n : Nat} (r : Room A (n + 1)) (env : Env) : Room (A.deeper env) n := ⟨r.hd, by have := r.depth; show A.depth + 1 + n < 1000; omega, by have := r.units; show A.units + 3 + 8 * n < 9900; omega⟩
theorem Room.in1 {A : Around} {n : Nat} (r : Room A (n + 1)) : Room A.in1 n := ⟨r.hd, by have := r.depth; show A.depth + n < 1000; omega, by have := r.units; show A.units + 1 + 8 * n < 9900; omega⟩
theorem Room.le {A : Around} {n m : Nat} (r : Room A n) (h : m ≤ n) : Room A m := ⟨r.hd, by have := r.depth; omega, by have := r.units; omega⟩
theorem Room.line {A : Around} {n : Nat} (r : Room A n) : A.units < cLine := by have := r.units; show A.units < 9900; omega
theorem Room.lim {A : Around} {n : Nat} (r : Room A n) : A.depth < recursionLimit := by have := r.depth; show A.depth < 1000; omega

section
variable {w : World} {A : Around} {G : Gh} {L : Addr} {nm : List Str} {vs vs' : List (Option Value)} {σ σ' : List (Addr × Obj)} {h : Heap} {s₀ : Shared} {tk : Nat} {env : Env} {E : Value → Shared → Prop}

/-! calls of the text's defs -/
def hide (W : List Addr) (h : Heap) : Gh := fun a => if a ∈ W then none else h.get? a
theorem hide_of {W : List Addr} {h : Heap} {b : Addr} {o : Obj} (e : hide W h b = some o) : h.get? b = some o := by
  unfold hide at e
  split at e
  · cases e
  · exact e
theorem hide_some {W : List Addr} {h : Heap} {b : Addr} {o : Obj} (e : h.get? b = some o) (n : b ∉ W) : hide W h b = some o := by unfold hide; rw [if_neg n]; exact e
theorem hide_none {W : List Addr} {h : Heap} {b : Addr} (n : b ∈ W) : hide W h b = none := by unfold hide; rw [if_pos n]
theorem Gnd.hide {W : List Addr} (Γ : Gnd w G) (k : ∀ b o, G b = some o → h.get? b = some o) (hW : ∀ b ∈ W, G b = none) : Gnd w (Mine.hide W h) :=
  Γ.mono fun b o e => hide_some (k b o e) fun m => by rw [hW b m] at e; cases e

noncomputable def Alls : List Str → List (Option Value) → (Str → Value → Prop) → Prop
  | x :: nm, some v :: vs, P => P x v ∧ Alls nm vs P
  | _ :: nm, none :: vs, P => Alls nm vs P
  | _, _, _ => True
theorem Alls.at_ {P : Str → Value → Prop} {nm : List Str} {vs : List (Option Value)} (h : Alls nm vs P) {x : Str} {v : Value} (a : At nm vs x v) : P x v := by
  induction a with
  | head => exact h.1
  | @tail x y nm v u vs _ ih =>
    cases u with
    | none => exact ih h
    | some u => exact ih h.2

theorem enter {f : Addr} {W : List (Addr × Obj)} {name qual : Str} {params : Arguments} {body : List Stmt} {scope : Scope} {dV kV doc pm cdv ct oc : Value} {an od : Option Addr} {osl : Array (Option Value)} {args : Args} {binds : List (Str × Value)} {R : Result → Shared → Prop}
    {n : Nat} (HA : Room A (n + 1)) (Γ : Gnd w G) (k : ∀ b o, G b = some o → h.get? b = some o) (ho : (KK w).lookup f = some ⟨oc, od, .func (fnX name qual params body scope [] dV kV doc pm an cdv ct), osl⟩) (hcode : codeIn (KK w) cdv qual = true)
    (hbind : BindsTo (S s₀ h tk) (fnX name qual params body scope [] dV kV doc pm an cdv ct) args binds) (hcell : (scope.names.all fun x => x.2 != .cell) = true) (hloc : (binds.all fun x => decide (scope.names.lookup x.1 = some .local)) = true)
    (hnd : nm.Nodup) (hat : Alls nm vs fun x v => binds.reverse.lookup x = some v) (hW : ∀ p ∈ W, h.get? p.1 = some p.2 ∧ G p.1 = none) (hWn : (W.map (·.1)).Nodup)
    (H : ∀ A' G' L h₁ tk₁, Room A' n → Gnd w G' → (∀ b o, h.get? b = some o → b ∉ W.map (·.1) → G' b = some o) → Mem G' L nm vs W h₁ →
      (∀ l, A.frames = some l → A'.frames = some (envX qual scope L f cdv [] :: l)) →
      wpAny (MM w) A' (execs body (envX qual scope L f cdv [])) (fun fl s' => R (.ok (.ret (match fl with | .ret v => v | _ => .none))) s') F0 (S s₀ h₁ tk₁))
    (hco : scope.isCoroutine = false := by rfl) (hgen : scope.isGenerator = false := by rfl) (hk : scope.kind = .function := by rfl) :
    codeAny (MM w) A (.call (.ref f) args) R (S s₀ h tk) := by
  have X := Γ.kin k
  refine codeAny_call_def (s := S s₀ h tk) (fd := fnX name qual params body scope [] dV kV doc pm an cdv ct) HA.lim (X _ _ ho) rfl (Γ.nolimit k) (codeRec_of X hcode) rfl hbind (fun x hx => ?_) (fun x hx => of_decide_eq_true (List.all_eq_true.mp hloc x hx)) (fun h₀ hns hk₀ => ?_) hco hgen hk
  · have := List.all_eq_true.mp hcell x hx
    simpa using this
  · have gW : ∀ b ∈ W.map (·.1), G b = none := fun b hb => by obtain ⟨p, hp, rfl⟩ := List.mem_map.mp hb; exact (hW p hp).2
    refine wpAny_mono (H _ (hide (W.map (·.1)) h) h.objs.size h₀ (tk + binds.length) (HA.deeper _) (Γ.hide k gW) (fun b o e n => hide_some e n) ?_ fun l hl => Around.frames_deeper hl) (fun _ _ q => q) (fun _ _ q => q.elim)
    refine ⟨⟨_, hns, fun _ _ a => hat.at_ a⟩, fun b o e => hk₀ b o (hide_of e), fun p hp => hk₀ _ _ (hW p hp).1, fun p hp => ⟨Nat.ne_of_lt (Heap.lt_size (hW p hp).1), hide_none (List.mem_map_of_mem hp)⟩, hWn, ?_, hnd⟩
    cases q : hide (W.map (·.1)) h h.objs.size with
    | none => rfl
    | some o => exact absurd (Heap.lt_size (hide_of q)) (Nat.lt_irrefl _)

/-- what a frame's end tells its caller -/
theorem Mem.kept {W : List Addr} {h h' : Heap} (D : Mem G L nm vs σ h') (kp : ∀ b o, h.get? b = some o → b ∉ W → G b = some o) : Keep W h h' := fun b o e n => D.keep b o (kp b o e n)

/-! names -/
theorem ld {x : Str} {pos : Pos} {v : Value} {Q : Value → Shared → Prop} (D : Mem G env.locals nm vs σ h) (a : At nm vs x v) (hQ : Q v (S s₀ h tk))
    (hk : env.scope.kind = .function := by rfl) (hx : env.kindOf x = some .local := by rfl) (hd : (x == ("__debug__" : Str)) = false := by rfl) :
    wpAny (MM w) A (eval (.Name x pos) env) Q E (S s₀ h tk) :=
  let ⟨_, n, am⟩ := D.ns; wpAny_Name (wpAny_loadName_local (s := S s₀ h tk) hk hx n (am _ _ a) hQ) hd
theorem ldn {x : Str} {v : Value} {Q : Value → Shared → Prop} (D : Mem G env.locals nm vs σ h) (a : At nm vs x v) (hQ : Q v (S s₀ h tk))
    (hk : env.scope.kind = .function := by rfl) (hx : env.kindOf x = some .local := by rfl) :
    wpAny (MM w) A (loadName env x) Q E (S s₀ h tk) :=
  let ⟨_, n, am⟩ := D.ns; wpAny_loadName_local (s := S s₀ h tk) hk hx n (am _ _ a) hQ
theorem sto {x : Str} {v : Value} {Q : Unit → Shared → Prop} (D : Mem G env.locals nm vs σ h) (p : Put nm vs x v vs')
    (hQ : ∀ h' tk', Mem G env.locals nm vs' σ h' → Q () (S s₀ h' tk'))
    (hk : env.scope.kind = .function := by rfl) (hx : env.kindOf x = some .local := by rfl) :
    wpAny (MM w) A (storeName env x v) Q E (S s₀ h tk) :=
  let ⟨_, n, am⟩ := D.ns
  wpAny_storeName_local (s := S s₀ h tk) hx n (fun h' hn hs => hQ h' (tk + 1) (D.store p ⟨n, am⟩ hn hs)) (by rw [hk]; rfl)
theorem ldc {x : Str} {pos : Pos} {c : Addr} {o : Obj} {v : Value} {Q : Value → Shared → Prop} (D : Mem G L nm vs σ h) (hc : env.cells.lookup x = some c) (kn : Knows G σ c o) (hv : o.data = .cell (some v)) (hQ : Q v (S s₀ h tk))
    (hk : env.scope.kind = .function := by rfl) (hx : env.kindOf x = some .cell := by rfl) (hd : (x == ("__debug__" : Str)) = false := by rfl) :
    wpAny (MM w) A (eval (.Name x pos) env) Q E (S s₀ h tk) := wpAny_Name (wpAny_loadName_cell (s := S s₀ h tk) hk hx hc ⟨o, D.knows kn, hv⟩ hQ) hd
theorem ldcn {x : Str} {c : Addr} {o : Obj} {v : Value} {Q : Value → Shared → Prop} (D : Mem G L nm vs σ h) (hc : env.cells.lookup x = some c) (kn : Knows G σ c o) (hv : o.data = .cell (some v)) (hQ : Q v (S s₀ h tk))
    (hk : env.scope.kind = .function := by rfl) (hx : env.kindOf x = some .cell := by rfl) :
    wpAny (MM w) A (loadName env x) Q E (S s₀ h tk) := wpAny_loadName_cell (s := S s₀ h tk) hk hx hc ⟨o, D.knows kn, hv⟩ hQ
theorem ldf {x : Str} {pos : Pos} {c : Addr} {o : Obj} {v : Value} {Q : Value → Shared → Prop} (D : Mem G L nm vs σ h) (hc : env.cells.lookup x = some c) (kn : Knows G σ c o) (hv : o.data = .cell (some v)) (hQ : Q v (S s₀ h tk))
    (hk : env.scope.kind = .function := by rfl) (hx : env.kindOf x = some .free := by rfl) (hd : (x == ("__debug__" : Str)) = false := by rfl) (hn : (x == ("__classdict__" : Str)) = false := by rfl) :
    wpAny (MM w) A (eval (.Name x pos) env) Q E (S s₀ h tk) := wpAny_Name (wpAny_loadName_free (s := S s₀ h tk) hk hx hc ⟨o, D.knows kn, hv⟩ hQ hn) hd
theorem stc {x : Str} {c : Addr} {o : Obj} {v₀ : Option Value} {v : Value} {Q : Unit → Shared → Prop} (D : Mem G L nm vs σ h) (hc : env.cells.lookup x = some c) (hm : (c, o) ∈ σ) (hv : o.data = .cell v₀)
    (hQ : ∀ h' tk' o', o'.data = .cell (some v) → (∀ σ', Rep c o o' σ σ' → Mem G L nm vs σ' h') → Q () (S s₀ h' tk'))
    (hk : env.scope.kind = .function := by rfl) (hx : env.kindOf x = some .cell := by rfl) :
    wpAny (MM w) A (storeName env x v) Q E (S s₀ h tk) := by
  refine wpAny_storeName_cell (s := S s₀ h tk) hk hx hc ⟨o, D.get hm, hv⟩ fun h' hc' hs => ?_
  obtain ⟨o', ho', hd'⟩ := hc'
  exact hQ h' tk o' hd' fun σ' r => D.same r hs ho'

/-- a name of the top -/
theorem ldg {x : Str} {pos : Pos} {v : Value} {Q : Value → Shared → Prop} (Γ : Gnd w G) (D : Mem G L nm vs σ h) (e : nsIn (KK w) mainGlobals x = some (some v)) (hQ : Q v (S s₀ h tk))
    (hg : env.globals = mainGlobals := by rfl) (hk : env.scope.kind = .function := by rfl) (hx : env.kindOf x = some .globalImplicit := by rfl) (hd : (x == ("__debug__" : Str)) = false := by rfl) :
    wpAny (MM w) A (eval (.Name x pos) env) Q E (S s₀ h tk) := by
  refine Name_function_global (s := S s₀ h tk) hk hx ?_ hd
  unfold loadGlobal
  rw [hg]
  exact wpAny_bind ((looks_nsIn (Γ.kin D.keep) e).at (wpAny_pure hQ))
theorem ldb {x : Str} {pos : Pos} {v : Value} {Q : Value → Shared → Prop} (Γ : Gnd w G) (D : Mem G L nm vs σ h) (e : nsIn (KK w) mainGlobals x = some none) (hv : bootBuiltins x = some v) (hQ : Q v (S s₀ h tk)) (hn : x ≠ "__name__" := by decide)
    (hg : env.globals = mainGlobals := by rfl) (hb : env.builtins = builtinsNs := by rfl) (hk : env.scope.kind = .function := by rfl) (hx : env.kindOf x = some .globalImplicit := by rfl) (hd : (x == ("__debug__" : Str)) = false := by rfl) :
    wpAny (MM w) A (eval (.Name x pos) env) Q E (S s₀ h tk) := by
  refine Name_function_global (s := S s₀ h tk) hk hx ?_ hd
  unfold loadGlobal
  rw [hg, hb]
  obtain ⟨mb, nb, r⟩ := Γ.blt D.keep
  refine wpAny_bind ((looks_nsIn (Γ.kin D.keep) e).at ?_)
  refine wpAny_bind (wpAny_nsGet (s := S s₀ h tk) nb ?_)
  rw [r x hn, hv]
  exact wpAny_pure hQ
end
/-! B2 -/
section
variable {G : Gh} {L : Addr} {nm : List Str} {vs vs' : List (Option Value)} {σ σ' : List (Addr × Obj)} {h h' : Heap}
theorem Mem.grown (D : Mem G L nm vs σ h) (k : ∀ b o, h.get? b = some o → h'.get? b = some o) : Mem G L nm vs σ h' :=
  D.change (fun _ e => k _ _ e) (fun _ _ _ e => k _ _ e) (fun p hp => k _ _ (D.own p hp)) D.off D.nd
theorem Mem.fresh (D : Mem G L nm vs σ h) (k : ∀ b o, h.get? b = some o → h'.get? b = some o) {a : Addr} {o : Obj} (ha : h'.get? a = some o) (hf : h.get? a = none) : Mem G L nm vs ((a, o) :: σ) h' := by
  refine D.change (fun _ e => k _ _ e) (fun _ _ _ e => k _ _ e) ?_ ?_ ?_
  · intro p hp
    rcases List.mem_cons.mp hp with rfl | hp
    · exact ha
    · exact k _ _ (D.own p hp)
  · intro p hp
    rcases List.mem_cons.mp hp with rfl | hp
    · refine ⟨fun e => ?_, ?_⟩
      · obtain ⟨m, n, _⟩ := D.ns
        obtain ⟨o', _, _, e', _⟩ := n
        rw [← e] at e'
        rw [hf] at e'; cases e'
      · cases q : G a with
        | none => rfl
        | some ob => have := D.keep _ _ q; rw [hf] at this; cases this
    · exact D.off p hp
  · refine List.nodup_cons.mpr ⟨fun hm => ?_, D.nd⟩
    obtain ⟨p, hp, e⟩ := List.mem_map.mp hm
    have := D.own p hp
    have e : p.1 = a := e
    rw [e, hf] at this; cases this
theorem size_none (h : Heap) : h.get? h.objs.size = none := by
  cases q : h.get? h.objs.size with
  | none => rfl
  | some o => exact absurd (Heap.lt_size q) (Nat.lt_irrefl _)
theorem get_none_of_ge {h : Heap} {a : Addr} (e : h.objs.size ≤ a) : h.get? a = none := by
  cases q : h.get? a with
  | none => rfl
  | some o => exact absurd (Heap.lt_size q) (Nat.not_lt.mpr e)
/-- behind a call that turns one object -/
theorem Mem.after1 (D : Mem G L nm vs σ h) {a : Addr} {o o' : Obj} (kp : Keep [a] h h') (r : Rep a o o' σ σ') (e : h'.get? a = some o') : Mem G L nm vs σ' h' := by
  have ha := D.off _ r.mem
  refine D.change (fun ob e' => kp _ _ e' fun q => ?_) (fun b ob g e' => kp b ob e' fun q => ?_) ?_ ?_ (by rw [r.adr]; exact D.nd)
  · exact ha.1 (List.mem_singleton.mp q).symm
  · rw [List.mem_singleton.mp q, ha.2] at g; cases g
  · intro p hp
    rcases r.cases_ D.nd p hp with rfl | ⟨h1, h2⟩
    · exact e
    · exact kp _ _ (D.own p h2) fun q => h1 (List.mem_singleton.mp q)
  · intro p hp
    rcases r.cases_ D.nd p hp with rfl | ⟨h1, h2⟩
    · exact ha
    · exact D.off p h2
end

abbrev tupOf (its : Array Value) (n : Nat) : Obj := { cls := .type "tuple", data := .seq its n }

section
variable {w : World} {A : Around} {G : Gh} {L : Addr} {nm : List Str} {vs vs' : List (Option Value)} {σ σ' : List (Addr × Obj)} {h : Heap} {s₀ : Shared} {tk : Nat} {env : Env} {E : Value → Shared → Prop}

/-! constants -/
theorem cInt {i : Int} {k : Nat} {pos : Pos} {Q : Value → Shared → Prop} (hQ : ∀ t tk', Q (.int i t) (S s₀ h tk')) : wpAny (MM w) A (eval (.Constant (.int i) k pos) env) Q E (S s₀ h tk) := fun _ _ _ => hQ tk (tk + 1)
theorem cStr {x : Str} {k : Nat} {pos : Pos} {Q : Value → Shared → Prop} (hQ : ∀ t tk', Q (.str x t) (S s₀ h tk')) : wpAny (MM w) A (eval (.Constant (.str x) k pos) env) Q E (S s₀ h tk) := fun _ _ _ => hQ tk (tk + 1)
theorem cBool {b : Bool} {k : Nat} {pos : Pos} {Q : Value → Shared → Prop} (hQ : Q (.bool b) (S s₀ h tk)) : wpAny (MM w) A (eval (.Constant (.bool b) k pos) env) Q E (S s₀ h tk) := fun _ _ _ => hQ
theorem cNone {k : Nat} {pos : Pos} {Q : Value → Shared → Prop} (hQ : Q .none (S s₀ h tk)) : wpAny (MM w) A (eval (.Constant .none k pos) env) Q E (S s₀ h tk) := fun _ _ _ => hQ

/-! calls -/
theorem cw_b {id : String} {first : List Value} {e : Expr} {rest : List Expr} {pos : Pos} {Q : Value → Shared → Prop} {s : Shared}
    (hQ : wpAny (MM w) A (spliced (backTo pos (starEach (e :: rest) env))) (fun vs s₁ => wpAny (MM w) A (call (.builtin id) (first ++ vs)) Q E s₁) E s)
    (he : starEach (e :: rest) env = (false, eval e env) :: starEach rest env := by rfl) (hplain : (backTo pos (starEach rest env)).any (·.1) = false := by rfl) :
    wpAny (MM w) A (callWith pos (.builtin id) first (backTo pos (starEach (e :: rest) env)) []) Q E s := by
  rw [he] at hQ ⊢
  exact callWith_builtin (by show (false || (backTo pos (starEach rest env)).any (·.1)) = false; rw [hplain]; rfl) (evalArgs_plain hQ)
theorem cw_b0 {id : String} {first : List Value} {pos : Pos} {Q : Value → Shared → Prop} {s : Shared}
    (hQ : wpAny (MM w) A (call (.builtin id) (first ++ [])) Q E s) : wpAny (MM w) A (callWith pos (.builtin id) first (backTo pos (starEach [] env)) []) Q E s :=
  callWith_builtin rfl (evalArgs_nil3 hQ)
theorem cw_t {T : String} {first : List Value} {e : Expr} {rest : List Expr} {pos : Pos} {Q : Value → Shared → Prop} {s : Shared}
    (hQ : wpAny (MM w) A (spliced (backTo pos (starEach (e :: rest) env))) (fun vs s₁ => wpAny (MM w) A (call (.type T) (first ++ vs)) Q E s₁) E s)
    (he : starEach (e :: rest) env = (false, eval e env) :: starEach rest env := by rfl) (hplain : (backTo pos (starEach rest env)).any (·.1) = false := by rfl) :
    wpAny (MM w) A (callWith pos (.type T) first (backTo pos (starEach (e :: rest) env)) []) Q E s := by
  rw [he] at hQ ⊢
  exact PySem.callWith_type (by show (false || (backTo pos (starEach rest env)).any (·.1)) = false; rw [hplain]; rfl) (evalArgs_plain hQ)
/-- the text's own: a def or a class -/
theorem cw_r {f : Addr} {first : List Value} {e : Expr} {rest : List Expr} {pos : Pos} {Q : Value → Shared → Prop} {s : Shared} (Γ : Gnd w G) (hk : keepIn (KK w) (.ref f) = true)
    (hQ : wpAny (MM w) A (spliced (backTo pos (starEach (e :: rest) env))) (fun vs s₁ => (∀ b o, G b = some o → s₁.heap.get? b = some o) ∧ wpAny (MM w) A (call (.ref f) (first ++ vs)) Q E s₁) E s)
    (he : starEach (e :: rest) env = (false, eval e env) :: starEach rest env := by rfl) (hplain : (backTo pos (starEach rest env)).any (·.1) = false := by rfl) :
    wpAny (MM w) A (callWith pos (.ref f) first (backTo pos (starEach (e :: rest) env)) []) Q E s := by
  rw [he] at hQ ⊢
  exact callWith_of (by show ((false || (backTo pos (starEach rest env)).any (·.1)) || false) = false; rw [hplain]; rfl) (keeps_K hk) (evalArgs_plain (wpAny_mono hQ (fun _ _ z => ⟨Γ.kin z.1, z.2⟩) fun _ _ z => z))
theorem cw_r0 {f : Addr} {first : List Value} {pos : Pos} {Q : Value → Shared → Prop} (Γ : Gnd w G) (D : Mem G L nm vs σ h) (hk : keepIn (KK w) (.ref f) = true)
    (hQ : wpAny (MM w) A (call (.ref f) (first ++ [])) Q E (S s₀ h tk)) : wpAny (MM w) A (callWith pos (.ref f) first (backTo pos (starEach [] env)) []) Q E (S s₀ h tk) :=
  callWith_of rfl (keeps_K hk) (evalArgs_nil3 ⟨Γ.kin D.keep, hQ⟩)
theorem keep_and {P : Prop} (D : Mem G L nm vs σ h) (x : P) : (∀ b o, G b = some o → (S s₀ h tk).heap.get? b = some o) ∧ P := ⟨D.keep, x⟩

/-! new lists and tuples -/
theorem nl {items : List Value} {Q : Value → Shared → Prop} (D : Mem G L nm vs σ h) (hQ : ∀ l h', Mem G L nm vs ((l, listOf items.toArray 0) :: σ) h' → Q (.ref l) (S s₀ h' tk)) (hz : items.length ≤ sizeLine := by decide) :
    wpAny (MM w) A (newList items) Q E (S s₀ h tk) := wpAny_newObj_type (s := S s₀ h tk) (hQ _ _ (D.push _)) (by show items.toArray.size ≤ sizeLine; rw [List.size_toArray]; exact hz)
theorem nt {items : List Value} {Q : Value → Shared → Prop} (D : Mem G L nm vs σ h) (hQ : ∀ l h', Mem G L nm vs ((l, tupOf items.toArray 0) :: σ) h' → Q (.ref l) (S s₀ h' tk)) (hz : items.length ≤ sizeLine := by decide) :
    wpAny (MM w) A (newTuple items) Q E (S s₀ h tk) := wpAny_newObj_type (s := S s₀ h tk) (hQ _ _ (D.push _)) (by show items.toArray.size ≤ sizeLine; rw [List.size_toArray]; exact hz)

/-! methods of built-in things -/
theorem gm {a : Addr} {o : Obj} {T id : String} {name : Str} {pl : Sem Bool} {Q : Value × List Value → Shared → Prop} (D : Mem G L nm vs σ h) (kn : Knows G σ a o) (hc : o.cls = .type T) (hd : o.dict = none) (pa : PlainAttrs T)
    (slot : Slot T name id) (hty : typeOf (.builtin id) = pure (.type "method_descriptor")) (hQ : Q (.builtin id, [.ref a]) (S s₀ h tk)) : wpAny (MM w) A (getMethod (.ref a) name pl) Q E (S s₀ h tk) :=
  getMethod_builtin (s := S s₀ h tk) (hT := ⟨o, D.knows kn, hc⟩) pa slot hty (fun b e => by cases e; exact ⟨o, D.knows kn, hd⟩) hQ

theorem seq_turn {l : Addr} {xs ys : List Value} {n : Nat} (D : Mem G L nm vs σ h) (hm : (l, listOf xs.toArray n) ∈ σ) (f : Array Value → Array Value) (e : f xs.toArray = ys.toArray) :
    ∃ n', ∀ σ', Rep l (listOf xs.toArray n) (listOf ys.toArray n') σ σ' → Mem G L nm vs σ' (h.update l (Obj.mapSeq f)) := by
  have q := PySem.IsL.update (D.get hm) f
  rw [e] at q
  exact ⟨_, fun σ' r => D.same r (Heap.SameBut.update ..) q⟩

theorem l_append {l : Addr} {xs : List Value} {n : Nat} {v : Value} {Q : Value → Shared → Prop} (D : Mem G L nm vs σ h) (hm : (l, listOf xs.toArray n) ∈ σ) (hz : xs.length ≤ 2 ^ 20)
    (hQ : ∀ h' n', (∀ σ', Rep l (listOf xs.toArray n) (listOf (xs ++ [v]).toArray n') σ σ' → Mem G L nm vs σ' h') → Q .none (S s₀ h' tk)) :
    wpAny (MM w) A (call (.builtin "list.append") [.ref l, v]) Q E (S s₀ h tk) := by
  obtain ⟨n', H⟩ := seq_turn (ys := xs ++ [v]) D hm (fun x => x.push v) (by simp)
  refine call_meets (s := S s₀ h tk) PySem.F.slot_list_append ⟨_, D.get hm, rfl⟩ PySem.F.entry_list_append (PySem.F.args_list_append_2 _ _) (list_append l xs.toArray n v ?_) ⟨D.get hm, hQ _ n' H⟩
  rw [List.size_toArray, sizeLine_eq]; omega

theorem l_extend {l b : Addr} {xs ys : List Value} {n n2 : Nat} {T : String} {Q : Value → Shared → Prop} (D : Mem G L nm vs σ h) (hm : (l, listOf xs.toArray n) ∈ σ) (hT : T = "list" ∨ T = "tuple") (kn : Knows G σ b { cls := .type T, data := .seq ys.toArray n2 }) (hz : xs.length + ys.length ≤ 2 ^ 20)
    (hQ : ∀ h' n', (∀ σ', Rep l (listOf xs.toArray n) (listOf (xs ++ ys).toArray n') σ σ' → Mem G L nm vs σ' h') → Q .none (S s₀ h' tk)) :
    wpAny (MM w) A (call (.builtin "list.extend") [.ref l, .ref b]) Q E (S s₀ h tk) := by
  obtain ⟨n', H⟩ := seq_turn (ys := xs ++ ys) D hm (fun x => x ++ ys.toArray) (by simp)
  have h1 : xs.toArray.size ≤ sizeLine := by rw [List.size_toArray, sizeLine_eq]; omega
  have h2 : xs.toArray.size + ys.toArray.size ≤ sizeLine + 1 := by simp only [List.size_toArray]; rw [sizeLine_eq]; omega
  have h3 : ¬(!xs.toArray.isEmpty && Builtin.List.listTooLong (xs.toArray.size + ys.toArray.size)) = true := by
    have : Builtin.List.listTooLong (xs.toArray.size + ys.toArray.size) = false := by
      simp only [Builtin.List.listTooLong, List.size_toArray, decide_eq_false_iff_not, Nat.not_lt, sizeLine_eq]; omega
    rw [this]; simp
  rcases hT with rfl | rfl
  · exact call_meets (s := S s₀ h tk) PySem.F.slot_list_extend ⟨_, D.get hm, rfl⟩ PySem.F.entry_list_extend (PySem.F.args_list_extend_2 _ _) (AutoSeq1.list_extend_list_list_0 l xs.toArray n b ys.toArray n2 h3 h1 h2) ⟨D.get hm, D.knows kn, hQ _ n' H⟩
  · exact call_meets (s := S s₀ h tk) PySem.F.slot_list_extend ⟨_, D.get hm, rfl⟩ PySem.F.entry_list_extend (PySem.F.args_list_extend_2 _ _) (AutoSeq1.list_extend_list_tuple_0 l xs.toArray n b ys.toArray n2 h3 h1 h2) ⟨D.get hm, D.knows kn, hQ _ n' H⟩

theorem l_iadd {l b : Addr} {xs ys : List Value} {n n2 : Nat} {Q : Value → Shared → Prop} (D : Mem G L nm vs σ h) (hm : (l, listOf xs.toArray n) ∈ σ) (kn : Knows G σ b (listOf ys.toArray n2)) (hz : xs.length + ys.length ≤ 2 ^ 20)
    (hQ : ∀ h' n', (∀ σ', Rep l (listOf xs.toArray n) (listOf (xs ++ ys).toArray n') σ σ' → Mem G L nm vs σ' h') → Q (.ref l) (S s₀ h' tk)) :
    wpAny (MM w) A (call (.builtin "list.__iadd__") [.ref l, .ref b]) Q E (S s₀ h tk) := by
  obtain ⟨n', H⟩ := seq_turn (ys := xs ++ ys) D hm (fun x => x ++ ys.toArray) (by simp)
  have h1 : xs.toArray.size ≤ sizeLine := by rw [List.size_toArray, sizeLine_eq]; omega
  have h2 : xs.toArray.size + ys.toArray.size ≤ sizeLine + 1 := by simp only [List.size_toArray]; rw [sizeLine_eq]; omega
  have h3 : ¬(!xs.toArray.isEmpty && Builtin.List.listTooLong (xs.toArray.size + ys.toArray.size)) = true := by
    have : Builtin.List.listTooLong (xs.toArray.size + ys.toArray.size) = false := by
      simp only [Builtin.List.listTooLong, List.size_toArray, decide_eq_false_iff_not, Nat.not_lt, sizeLine_eq]; omega
    rw [this]; simp
  exact call_meets (s := S s₀ h tk) PySem.F.slot_list_iadd ⟨_, D.get hm, rfl⟩ PySem.F.entry_list_iadd (PySem.F.args_list_iadd_2 _ _) (AutoSeq1.list___iadd___list_list_0 l xs.toArray n b ys.toArray n2 h3 h1 h2) ⟨D.get hm, D.knows kn, hQ _ n' H⟩

theorem l_pop0 {l : Addr} {x : Value} {xs : List Value} {n : Nat} {u : Tok} {Q : Value → Shared → Prop} (D : Mem G L nm vs σ h) (hm : (l, listOf (x :: xs).toArray n) ∈ σ) (hz : xs.length ≤ 2 ^ 20)
    (hQ : ∀ h' n', (∀ σ', Rep l (listOf (x :: xs).toArray n) (listOf xs.toArray n') σ σ' → Mem G L nm vs σ' h') → Q x (S s₀ h' tk)) :
    wpAny (MM w) A (call (.builtin "list.pop") [.ref l, .int 0 u]) Q E (S s₀ h tk) := by
  obtain ⟨n', H⟩ := seq_turn (ys := xs) D hm (fun z => z.eraseIdxIfInBounds 0) (by simp [Array.eraseIdxIfInBounds])
  refine call_meets (s := S s₀ h tk) PySem.F.slot_list_pop ⟨_, D.get hm, rfl⟩ PySem.F.entry_list_pop (PySem.F.args_list_pop_2 _ _) (PySem.MeetsSeq.list_pop_at l (x :: xs).toArray n 0 u 0 x (by decide) ?_ (by simp) ?_) ⟨D.get hm, hQ _ n' H⟩
  · simp [seqIndex?]
  · rw [List.size_toArray, sizeLine_eq]; simp only [List.length_cons]; omega
theorem l_pop {l : Addr} {x : Value} {xs : List Value} {n : Nat} {Q : Value → Shared → Prop} (D : Mem G L nm vs σ h) (hm : (l, listOf (xs ++ [x]).toArray n) ∈ σ) (hz : xs.length ≤ 2 ^ 20)
    (hQ : ∀ h' n', (∀ σ', Rep l (listOf (xs ++ [x]).toArray n) (listOf xs.toArray n') σ σ' → Mem G L nm vs σ' h') → Q x (S s₀ h' tk)) :
    wpAny (MM w) A (call (.builtin "list.pop") [.ref l]) Q E (S s₀ h tk) := by
  have e : (xs ++ [x]).toArray.size - 1 = xs.length := by simp
  obtain ⟨n', H⟩ := seq_turn (ys := xs) D hm (fun z => z.eraseIdxIfInBounds ((xs ++ [x]).toArray.size - 1)) (by rw [e]; simp only [Array.eraseIdxIfInBounds, List.size_toArray, List.length_append, List.length_singleton, Nat.lt_succ_self, dif_pos, List.eraseIdx_toArray]; rw [List.eraseIdx_append_of_length_le (Nat.le_refl _)]; simp)
  refine call_meets (s := S s₀ h tk) PySem.F.slot_list_pop ⟨_, D.get hm, rfl⟩ PySem.F.entry_list_pop (PySem.F.args_list_pop_1 _) (PySem.MeetsSeq.list_pop_last l (xs ++ [x]).toArray n x (by rw [e]; simp) ?_) ⟨D.get hm, hQ _ n' H⟩
  rw [List.size_toArray, sizeLine_eq]; simp only [List.length_append, List.length_singleton]; omega
end
/-! B3 -/
section
variable {w : World} {A : Around} {G : Gh} {L : Addr} {nm : List Str} {vs vs' : List (Option Value)} {σ σ' : List (Addr × Obj)} {h : Heap} {s₀ : Shared} {tk : Nat} {env : Env} {E : Value → Shared → Prop}

/-! ints -/
theorem i_add {a b : Int} {t u : Tok} {Q : Value → Shared → Prop} (hQ : ∀ t' tk', Q (.int (a + b) t') (S s₀ h tk')) : wpAny (MM w) A (binaryOp .Add (.int a t) (.int b u)) Q E (S s₀ h tk) := PyProof.Rows.add_int (s := S s₀ h tk) (hQ tk (tk + 1))
theorem i_iadd {a b : Int} {t u : Tok} {Q : Value → Shared → Prop} (hQ : ∀ t' tk', Q (.int (a + b) t') (S s₀ h tk')) : wpAny (MM w) A (inplaceOp .Add (.int a t) (.int b u)) Q E (S s₀ h tk) := PyProof.Rows.iadd_int (s := S s₀ h tk) (hQ tk (tk + 1))
theorem i_sub {a b : Int} {t u : Tok} {Q : Value → Shared → Prop} (hQ : ∀ t' tk', Q (.int (a - b) t') (S s₀ h tk')) : wpAny (MM w) A (binaryOp .Sub (.int a t) (.int b u)) Q E (S s₀ h tk) := PyProof.Rows.sub_int (s := S s₀ h tk) (hQ tk (tk + 1))
theorem i_mod {a b : Int} {t u : Tok} {Q : Value → Shared → Prop} (hb : b ≠ 0) (hQ : ∀ t' tk', Q (.int (a.fmod b) t') (S s₀ h tk')) : wpAny (MM w) A (binaryOp .Mod (.int a t) (.int b u)) Q E (S s₀ h tk) := PyProof.Rows.mod_int' (s := S s₀ h tk) hb (hQ tk (tk + 1))
theorem i_ge {a b : Int} {t u : Tok} {Q : Value → Shared → Prop} (hQ : Q (.bool (decide (b ≤ a))) (S s₀ h tk)) : wpAny (MM w) A (compareOp .GtE (.int a t) (.int b u)) Q E (S s₀ h tk) := PyProof.Rows.ge_int hQ
theorem i_gt {a b : Int} {t u : Tok} {Q : Value → Shared → Prop} (hQ : Q (.bool (decide (b < a))) (S s₀ h tk)) : wpAny (MM w) A (compareOp .Gt (.int a t) (.int b u)) Q E (S s₀ h tk) := PyProof.Rows.gt_int hQ
theorem i_eq {a b : Int} {t u : Tok} {Q : Value → Shared → Prop} (hQ : Q (.bool (a == b)) (S s₀ h tk)) : wpAny (MM w) A (compareOp .Eq (.int a t) (.int b u)) Q E (S s₀ h tk) := PyProof.Rows.eq_int hQ

/-! truth -/
theorem ite_b {b : Bool} {P Q : Prop} (ht : b = true → P) (hf : b = false → Q) : if b = true then P else Q := by cases b with
  | true => exact ht rfl
  | false => exact hf rfl

/-! lists read -/
theorem l_len {l : Addr} {xs : List Value} {n : Nat} {Q : Value → Shared → Prop} (D : Mem G L nm vs σ h) (kn : Knows G σ l (listOf xs.toArray n)) (hz : xs.length ≤ 2 ^ 20) (hQ : ∀ t tk', Q (.int xs.length t) (S s₀ h tk')) :
    wpAny (MM w) A (call (.builtin "len") [.ref l]) Q E (S s₀ h tk) :=
  PyProof.Rows.len_list (s := S s₀ h tk) ⟨_, D.knows kn, rfl, n, rfl⟩ (by rw [List.size_toArray]; omega) (by rw [List.size_toArray]; exact hQ _ _)
theorem l_item {value slice : Expr} {l : Addr} {xs : List Value} {n : Nat} {k : Int} {u : Tok} {x : Value} {Q : Value → Shared → Prop} (D : Mem G L nm vs σ h) (kn : Knows G σ l (listOf xs.toArray n)) (h0 : 0 ≤ k) (hf : k < 2 ^ 63) (hx : xs[k.toNat]? = some x) (hQ : Q x (S s₀ h tk))
    (hs : subscripted slice false (.ref l) (.int k u) = operate [.ref l, .int k u] (getItem (.ref l) (.int k u)) := by with_unfolding_all rfl) :
    wpAny (MM w) A (subscriptTail value slice (.ref l) (.int k u)) Q E (S s₀ h tk) :=
  have hl : (S s₀ h tk).heap.IsList l xs.toArray := ⟨_, D.knows kn, rfl, n, rfl⟩
  tail_any hl.typeIs slot_list_getitem.lookup (wpAny_getItem_list hl h0 hf (by simpa using hx) hQ) hs
theorem t_item {value slice : Expr} {l : Addr} {xs : List Value} {n : Nat} {k : Int} {u : Tok} {j : Nat} {x : Value} {Q : Value → Shared → Prop} (D : Mem G L nm vs σ h) (kn : Knows G σ l (tupOf xs.toArray n)) (hlo : -(2 ^ 63) ≤ k) (hf : k < 2 ^ 63) (hj : seqIndex? k xs.length = some j) (hx : xs[j]? = some x) (hQ : Q x (S s₀ h tk))
    (hs : subscripted slice false (.ref l) (.int k u) = operate [.ref l, .int k u] (getItem (.ref l) (.int k u)) := by with_unfolding_all rfl) :
    wpAny (MM w) A (subscriptTail value slice (.ref l) (.int k u)) Q E (S s₀ h tk) :=
  item_tupleT (s := S s₀ h tk) ⟨_, D.knows kn, rfl, n, rfl⟩ hlo hf hj hx hQ hs
theorem l_ne {a b : Addr} {xs ys : List Value} {ns ms : List Int} {n n' : Nat} {Q : Value → Shared → Prop} (D : Mem G L nm vs σ h) (kn : Knows G σ a (listOf xs.toArray n)) (kn' : Knows G σ b (listOf ys.toArray n')) (hi : IntsAre xs ns) (hi' : IntsAre ys ms) (hu : A.units + 64 < cLine)
    (hQ : Q (.bool (!decide (ns = ms))) (S s₀ h tk)) : wpAny (MM w) A (compareOp .NotEq (.ref a) (.ref b)) Q E (S s₀ h tk) :=
  ne_intsK (s := S s₀ h tk) ⟨_, D.knows kn, rfl, n, rfl⟩ hi ⟨_, D.knows kn', rfl, n', rfl⟩ hi' hu hQ
/-- a slice up to a written bound -/
theorem l_upto {value e : Expr} {p : Pos} {l : Addr} {xs : List Value} {n : Nat} {y : Int} {u : Tok} {a : Addr} {Q : Value → Shared → Prop} (D : Mem G L nm vs ((a, { cls := .type "slice", data := .fields #[.none, .int y u, .none] }) :: σ) h) (kn : Knows G σ l (listOf xs.toArray n)) (h0 : 0 ≤ y) (hz : xs.length ≤ 2 ^ 20)
    (hQ : ∀ r h' tk', Mem G L nm vs ((r, listOf (xs.take y.toNat).toArray 0) :: σ) h' → Q (.ref r) (S s₀ h' tk')) (hv : ∀ r, letTemporaryGo value (.ref l) r = pure () := by intro _; rfl) :
    wpAny (MM w) A (subscriptTail value (.Slice none (some e) none p) (.ref l) (.ref a)) Q E (S s₀ h tk) := by
  have D' := D.tail
  have hl : (S s₀ h tk).heap.IsList l xs.toArray := ⟨_, D'.knows kn, rfl, n, rfl⟩
  refine subscriptTail_ops hl.typeIs list_getitem_lookup (wpAny_getItem_list_slice (lo := none) (hi := some y) hl ⟨_, D.get (.head _), rfl, rfl⟩ .none (.int _ _) .none (by simp) ?_ (by rw [List.size_toArray, sizeLine_eq]; omega)) rfl hv
  have e : slicePick xs.toArray none (some y) none = (xs.take y.toNat).toArray := by
    obtain ⟨k, rfl⟩ : ∃ k : Nat, y = (k : Int) := ⟨y.toNat, by omega⟩
    rw [slicePick_upto' xs.toArray k]
    simp
  rw [e]
  exact hQ _ _ _ (D'.push _)
end

/-! the driver: shapes alone -/
local macro_rules | `(tactic| walk_at "m.shape") => `(tactic| with_reducible first
  | refine wpAny_execs_nil ?_
  | refine wpAny_execs_cons ?_
  | refine wpAny_If ?_
  | refine wpAny_Return_some ?_
  | refine IfExp_ ?_
  | refine isTrue_and ?_
  | refine isTrue_and_nil ?_
  | refine isTrue_or ?_
  | refine isTrue_or_nil ?_
  | refine isTrue_not ?_
  | refine Subscript_ ?_
  | refine List_ ?_
  | refine Tuple_ ?_
  | refine wpAny_BinOp ?_
  | refine UnaryOp_ ?_
  | refine not_of ?_)
/-! B4 -/
section
open Builtin Builtin.Object Builtin.ObjectAttr
/-! an object's own names -/
inductive AtO : List Str → List (Option Value) → Str → Option Value → Prop
  | head {x : Str} {nm : List Str} {v : Option Value} {vs : List (Option Value)} : AtO (x :: nm) (v :: vs) x v
  | tail {x y : Str} {nm : List Str} {v : Option Value} {u : Option Value} {vs : List (Option Value)} : AtO nm vs x v → AtO (y :: nm) (u :: vs) x v
inductive PutO : List Str → List (Option Value) → Str → Value → Option Value → List (Option Value) → Prop
  | head {x : Str} {nm : List Str} {v : Value} {u : Option Value} {vs : List (Option Value)} : PutO (x :: nm) (u :: vs) x v u (some v :: vs)
  | tail {x y : Str} {nm : List Str} {v : Value} {u u' : Option Value} {vs vs' : List (Option Value)} : PutO nm vs x v u' vs' → PutO (y :: nm) (u :: vs) x v u' (u :: vs')
theorem AtO.mem {nm : List Str} {vs : List (Option Value)} {x : Str} {v : Option Value} (h : AtO nm vs x v) : x ∈ nm := by
  induction h with
  | head => exact .head _
  | tail _ ih => exact .tail _ ih
theorem PutO.mem {nm : List Str} {vs vs' : List (Option Value)} {x : Str} {v : Value} {u : Option Value} (h : PutO nm vs x v u vs') : x ∈ nm := by
  induction h with
  | head => exact .head _
  | tail _ ih => exact .tail _ ih
theorem PutO.old {nm : List Str} {vs vs' : List (Option Value)} {x : Str} {v : Value} {u : Option Value} (h : PutO nm vs x v u vs') : AtO nm vs x u := by
  induction h with
  | head => exact .head
  | tail _ ih => exact .tail ih
theorem PutO.at_ {nm : List Str} {vs vs' : List (Option Value)} {x : Str} {v : Value} {u : Option Value} (h : PutO nm vs x v u vs') (hn : nm.Nodup) {y : Str} {z : Option Value} (a : AtO nm vs' y z) : (y = x ∧ z = some v) ∨ (y ≠ x ∧ AtO nm vs y z) := by
  induction h with
  | head =>
    cases a with
    | head => exact .inl ⟨rfl, rfl⟩
    | tail a =>
      refine .inr ⟨fun e => ?_, .tail a⟩
      subst e
      exact (List.nodup_cons.mp hn).1 a.mem
  | tail p ih =>
    cases a with
    | head =>
      refine .inr ⟨fun e => ?_, .head⟩
      subst e
      exact (List.nodup_cons.mp hn).1 p.mem
    | tail a =>
      rcases ih (List.nodup_cons.mp hn).2 a with h | ⟨h1, h2⟩
      · exact .inl h
      · exact .inr ⟨h1, .tail h2⟩
noncomputable def cnt : List (Option Value) → Nat
  | [] => 0
  | none :: r => cnt r
  | some _ :: r => cnt r + 1
theorem PutO.cnt {nm : List Str} {vs vs' : List (Option Value)} {x : Str} {v : Value} {u : Option Value} (h : PutO nm vs x v u vs') : Mine.cnt vs' = if u.isSome then Mine.cnt vs else Mine.cnt vs + 1 := by
  induction h with
  | @head x nm v u vs => cases u <;> rfl
  | @tail x y nm v u u' vs vs' _ ih => cases u <;> simp only [Mine.cnt, ih] <;> split <;> rfl
theorem PutO.len {nm : List Str} {vs vs' : List (Option Value)} {x : Str} {v : Value} {u : Option Value} (h : PutO nm vs x v u vs') : vs'.length = vs.length := by
  induction h with
  | head => rfl
  | tail _ ih => simp only [List.length_cons, ih]
theorem cnt_le : ∀ vs : List (Option Value), cnt vs ≤ vs.length
  | [] => Nat.le_refl _
  | none :: r => Nat.le_succ_of_le (cnt_le r)
  | some _ :: r => Nat.succ_le_succ (cnt_le r)

theorem isStr_str (x y : Str) (t : Tok) : (Value.str y t).isStr x = decide (y = x) := by
  show (y == x) = _
  by_cases h : y = x
  · subst h; simp
  · simp [h]
theorem putL_len (x : Str) (hs : Int) (k v : Value) : ∀ es : List DictEntry, (putL x hs k v es).length = if es.any (·.key.isStr x) then es.length else es.length + 1
  | [] => rfl
  | e :: r => by
    unfold putL
    rw [List.any_cons]
    cases h : e.key.isStr x with
    | true => rfl
    | false =>
      simp only [Bool.false_eq_true, if_false, Bool.false_or, List.length_cons, putL_len x hs k v r]
      split <;> rfl
theorem putL_find_self (x : Str) (hs : Int) (t : Tok) (v : Value) : ∀ es : List DictEntry, ∃ e, (putL x hs (.str x t) v es).find? (·.key.isStr x) = some e ∧ e.val = v
  | [] => ⟨⟨hs, .str x t, v⟩, by unfold putL; rw [List.find?_cons]; simp [isStr_str], rfl⟩
  | e :: r => by
    unfold putL
    cases h : e.key.isStr x with
    | true => exact ⟨⟨e.hash, e.key, v⟩, by simp only [if_true]; rw [List.find?_cons]; simp only [h], rfl⟩
    | false =>
      obtain ⟨e', h1, h2⟩ := putL_find_self x hs t v r
      exact ⟨e', by simp only [Bool.false_eq_true, if_false]; rw [List.find?_cons]; simp only [h]; exact h1, h2⟩
theorem putL_find_other {x y : Str} (hs : Int) (t : Tok) (v : Value) (n : y ≠ x) : ∀ es : List DictEntry, ((putL x hs (.str x t) v es).find? (·.key.isStr y)).map (·.val) = (es.find? (·.key.isStr y)).map (·.val)
  | [] => by
    unfold putL
    rw [List.find?_cons]
    have : (Value.str x t).isStr y = false := by rw [isStr_str]; exact decide_eq_false fun e => n e.symm
    simp only [this, List.find?_nil]
  | e :: r => by
    unfold putL
    cases h : e.key.isStr x with
    | true =>
      simp only [if_true]
      rw [List.find?_cons, List.find?_cons]
      have : e.key.isStr y = false := by
        cases q : e.key.isStr y with
        | false => rfl
        | true => exact absurd (Value.isStr_inj _ _ _ q h) n
      simp only [this]
    | false =>
      simp only [Bool.false_eq_true, if_false]
      rw [List.find?_cons, List.find?_cons]
      cases q : e.key.isStr y with
      | true => rfl
      | false => exact putL_find_other hs t v n r
theorem putL_any_ref (x : Str) (hs : Int) (t : Tok) (v : Value) : ∀ es : List DictEntry, (putL x hs (.str x t) v es).any (·.refKey) = es.any (·.refKey)
  | [] => by unfold putL; rfl
  | e :: r => by
    unfold putL
    cases h : e.key.isStr x with
    | true => simp only [if_true, List.any_cons]; rfl
    | false => simp only [Bool.false_eq_true, if_false, List.any_cons, putL_any_ref x hs t v r]
theorem getL_putL (x y : Str) (hs : Int) (t : Tok) (v : Value) (es : List DictEntry) : getL y (putL x hs (.str x t) v es) = if y = x then some (some v) else getL y es := by
  by_cases n : y = x
  · subst n
    obtain ⟨e, h1, h2⟩ := putL_find_self y hs t v es
    unfold getL
    rw [h1, if_pos rfl, ← h2]
  · rw [if_neg n]
    have h := putL_find_other hs t v n es
    unfold getL
    rw [putL_any_ref]
    generalize (putL x hs (.str x t) v es).find? (·.key.isStr y) = a at h ⊢
    generalize es.find? (·.key.isStr y) = b at h ⊢
    cases a <;> cases b <;> simp at h ⊢
    exact h
theorem getL_any {x : Str} {es : List DictEntry} {u : Option Value} (h : getL x es = some u) : es.any (·.key.isStr x) = u.isSome := by
  unfold getL at h
  split at h
  · rename_i e he
    cases h
    exact List.any_eq_true.mpr ⟨e, List.mem_of_find?_eq_some he, List.find?_some (p := fun z : DictEntry => z.key.isStr x) he⟩
  · rename_i he
    split at h
    · cases h
    · cases h
      show es.any (·.key.isStr x) = false
      rw [List.any_eq_false]
      exact fun e hm => by simpa using List.find?_eq_none.mp he e hm

/-- an object's dict: the named fields are so -/
def FD (o : Obj) (nf : List Str) (vf : List (Option Value)) : Prop := ∃ es n, o = dictOf es n ∧ es.length ≤ cnt vf ∧ ∀ x u, AtO nf vf x u → getL x es = some u
theorem FD.nil (nf : List Str) : FD (dictOf [] 0) nf (nf.map fun _ => none) := by
  refine ⟨[], 0, rfl, Nat.zero_le _, fun x u a => ?_⟩
  have : ∀ {nf : List Str} {vf : List (Option Value)} {x : Str} {u : Option Value}, AtO nf vf x u → vf = nf.map (fun _ => none) → u = none := by
    intro nf vf x u a
    induction a with
    | head => intro e; exact (List.cons.inj e).1
    | tail _ ih => intro e; exact ih (List.cons.inj e).2
  rw [this a rfl]
  rfl

section
variable {w : World} {A : Around} {G : Gh} {L : Addr} {nm : List Str} {vs vs' : List (Option Value)} {σ σ' : List (Addr × Obj)} {h : Heap} {s₀ : Shared} {tk : Nat} {env : Env} {E : Value → Shared → Prop}
  {x dx C : Addr} {o : Obj} {nf : List Str} {vf vf' : List (Option Value)} {name : Str} {v : Value} {u : Option Value}

theorem inst_at (D : Mem G L nm vs σ h) (kx : Knows G σ x (instObj C dx)) (kd : Knows G σ dx o) : InstAt h x (instObj C dx) C (some o) := ⟨D.knows kx, rfl, rfl, D.knows kd⟩

theorem a_get {Q : Value → Shared → Prop} (Γ : Gnd w G) (D : Mem G L nm vs σ h) (kx : Knows G σ x (instObj C dx)) (kd : Knows G σ dx o) (hF : FD o nf vf) (hg : plainGet (KK w) C name = true) (hh : hasDictIn (KK w) C = true)
    (ha : findIn (KK w) (.ref C) name = some none) (hl : AtO nf vf name (some v)) (hv : handedIn v = true) (hQ : ∀ tk', Q v (S s₀ h tk')) : wpAny (MM w) A (getAttr (.ref x) name true) Q E (S s₀ h tk) := by
  obtain ⟨es, n, rfl, _, hf⟩ := hF
  exact get_value (s := S s₀ h tk) (Γ.kin D.keep) (inst_at D kx kd) (plainGet_of hg).1 (findObj_own hh ha rfl (hf _ _ hl)) hv (hQ _)

theorem a_meth {f : Addr} {pl : Sem Bool} {Q : Value × List Value → Shared → Prop} (Γ : Gnd w G) (D : Mem G L nm vs σ h) (kx : Knows G σ x (instObj C dx)) (kd : Knows G σ dx o) (hF : FD o nf vf) (hg : plainGet (KK w) C name = true)
    (hf : findIn (KK w) (.ref C) name = some (some (.ref f))) (ht : isFn (KK w) (.ref f) = true) (hl : AtO nf vf name none) (hQ : Q (.ref f, [.ref x]) (S s₀ h tk)) : wpAny (MM w) A (getMethod (.ref x) name pl) Q E (S s₀ h tk) := by
  obtain ⟨es, n, rfl, _, hff⟩ := hF
  exact method_fn (s := S s₀ h tk) (Γ.kin D.keep) (inst_at D kx kd) (plainGet_of hg).1 (plainGet_of hg).2 hf (beq_iff_eq.mp ht) (by show (lookIn name (dictOf es n)).map _ = _; rw [lookIn_dict, hff _ _ hl]; rfl) hQ

theorem a_set {Q : Unit → Shared → Prop} (Γ : Gnd w G) (D : Mem G L nm vs σ h) (kx : Knows G σ x (instObj C dx)) (hm : (dx, o) ∈ σ) (hF : FD o nf vf) (hnf : nf.Nodup) (hlen : vf.length ≤ 100) (hs : findIn (KK w) (.ref C) "__setattr__" = some (some (.builtin "object.__setattr__")))
    (hp : plainOver (KK w) C = true) (ht : takerIn (KK w) C name = some none) (hh : (clsIn (KK w) C).any (·.hasDict) = true) (pf : PutO nf vf name v u vf')
    (hQ : ∀ h' tk' o', FD o' nf vf' → (∀ σ', Rep dx o o' σ σ' → Mem G L nm vs σ' h') → Q () (S s₀ h' tk')) : wpAny (MM w) A (setAttr (.ref x) name v) Q E (S s₀ h tk) := by
  obtain ⟨es, n, rfl, hle, hff⟩ := hF
  have X := Γ.kin D.keep
  have I := inst_at D kx (.inr hm)
  obtain ⟨cd, hc, hd'⟩ := any_some hh
  have hx := I.at_
  refine set_plain (s := S s₀ h tk) X I hs (osa_open (s := S s₀ h (tk + 1)) X I hp ht fun b => ?_)
  show wpAny _ _ (storeInOwnDict (.ref x) (.ref C) (.str name tk) name v b) _ _ _
  refine wpAny_bind (wpAny_pure (wpAny_bind (wpAny_bind (wpAny_loadPart (s := S s₀ h (tk + 1)) hx (wpAny_bind ((looks_clsIn X hc).at ?_))))))
  rw [hd']
  refine wpAny_pure (a := some dx) (wpAny_bind (wpAny_pure (wpAny_bind ?_)))
  unfold nsSet
  have od := D.get hm
  refine wpAny_bind (wpAny_bind (wpAny_askSetting (wpAny_pure (wpAny_bind (wpAny_mkText (wpAny_bind (wpAny_loadPart (s := S s₀ h (tk + 1 + 1)) od ?_)))))))
  dsimp only
  have old := hff _ _ pf.old
  have hr : aRefKeyMayBeTheName name es.toArray = false := by
    rw [aRefKeyMayBeTheName_at, ← Array.any_toList, ← Array.any_toList]
    show (!es.any (·.key.isStr name) && es.any (·.refKey)) = false
    rw [getL_any old]
    cases u with
    | some u => rfl
    | none =>
      have old' := old
      unfold getL at old'
      split at old'
      · cases old'
      · split at old'
        · cases old'
        · rename_i z
          rw [Bool.not_eq_true] at z
          simp [z]
  rw [hr]
  have hlen' : (putL name (PyData.keyHash w.params name) (.str name (tk + 1)) v es).length ≤ cnt vf' := by
    rw [putL_len, getL_any old, pf.cnt]
    cases u <;> simp <;> omega
  have F' : FD (dictOf (putL name (PyData.keyHash w.params name) (.str name (tk + 1)) v es) (putN name es n)) nf vf' := by
    refine ⟨_, _, rfl, hlen', fun y z a => ?_⟩
    rw [getL_putL]
    rcases pf.at_ hnf a with ⟨rfl, rfl⟩ | ⟨h1, h2⟩
    · exact if_pos rfl
    · rw [if_neg h1]; exact hff _ _ h2
  have eN := putName_dict name (PyData.keyHash w.params name) (.str name (tk + 1)) v es n
  refine wpAny_updatePart od ?_
  have U : ∀ σ', Rep dx (dictOf es n) (dictOf (putL name (PyData.keyHash w.params name) (.str name (tk + 1)) v es) (putN name es n)) σ σ' → Mem G L nm vs σ' (h.update dx (Obj.putName name (PyData.keyHash w.params name) (.str name (tk + 1)) v)) :=
    fun σ' r => D.update r _ eN
  have hg : (h.update dx (Obj.putName name (PyData.keyHash w.params name) (.str name (tk + 1)) v)).get? dx = some (dictOf (putL name (PyData.keyHash w.params name) (.str name (tk + 1)) v es) (putN name es n)) := by
    rw [Heap.get?_update_self _ od (by rw [eN]; rfl), eN]
  refine wpAny_bind (wpAny_lookBehind (s := S s₀ (h.update dx (Obj.putName name (PyData.keyHash w.params name) (.str name (tk + 1)) v)) (tk + 1 + 1)) hg (pastItsLine_dict ?_) ?_)
  · have l1 : cnt vf' ≤ vf'.length := cnt_le vf'
    have l2 : vf'.length = vf.length := pf.len
    rw [List.size_toArray, sizeLine_eq]; omega
  · exact wpAny_pure (hQ _ (tk + 1 + 1) _ F' U)
end
end
/-! B5 -/
abbrev Inv := Gh → List (Option Value) → List (Addr × Obj) → Prop

section
variable {w : World} {A : Around} {G : Gh} {L : Addr} {nm : List Str} {vs vs' : List (Option Value)} {σ σ' : List (Addr × Obj)} {h : Heap} {s₀ : Shared} {tk : Nat} {env : Env} {E : Value → Shared → Prop}

theorem f0_noted {env : Env} {R : Value → Shared → Prop} : ∀ (e : Value) (s : Shared), F0 e s → notedBy (MM w) A env R e s := fun _ _ q => q.elim

/-- how a turn of a loop ends: I's object stands -/
def Turn (s₀ : Shared) (L : Addr) (nm : List Str) (own : List (Addr × Obj)) (J : Inv) (R : Result → Shared → Prop) (f : Flow) (s' : Shared) : Prop := match f with
  | .brk => R (.ok .next) s'
  | .ret v => R (.ok (.ret v)) s'
  | _ => ∃ G vs σ h tk, s' = S s₀ h tk ∧ Mem G L nm vs (own ++ σ) h ∧ J G vs σ
theorem Turn.next {own : List (Addr × Obj)} {J : Inv} {R : Result → Shared → Prop} (D : Mem G L nm vs (own ++ σ) h) (j : J G vs σ) : Turn s₀ L nm own J R .next (S s₀ h tk) := ⟨G, vs, σ, h, tk, rfl, D, j⟩

theorem loop_walk {I : Addr} {fp : List Addr} {n : Nat} {P : Nat → Value → Prop} {St : Nat → Heap → Prop} {target : Expr} {body : List Stmt} {R : Result → Shared → Prop} (W : Walks PG w A I fp [I] n P St)
    (hI : ∀ i h, St i h → ∃ o, h.get? I = some o) (J : Nat → Inv) (hsrc : ∀ b ∈ fp, b ≠ I → ∃ o, ∀ i G vs σ, J i G vs σ → Knows G σ b o) {o0 : Obj}
    (D : Mem G L nm vs ((I, o0) :: σ) h) (hst : St 0 h) (h0 : J 0 G vs σ)
    (turn : ∀ i G vs σ h tk v oI, i < n → P i v → J i G vs σ → Mem G L nm vs ((I, oI) :: σ) h →
      wpAny (MM w) A (assign target env v) (fun _ s₂ => wpAny (MM w) A (execs body env) (Turn s₀ L nm [(I, oI)] (J (i + 1)) R) F0 s₂) F0 (S s₀ h tk))
    (done : ∀ G vs σ h tk, J n G vs σ → Mem G L nm vs σ h → R (.ok .next) (S s₀ h tk))
    (ht : ∀ i h tk v (Q : Unit → Shared → Prop) E, St i h → Q () (S s₀ h tk) → wpAny (MM w) A (letOwnedTupleGo target (.ref I) v) Q E (S s₀ h tk) := by intro _ _ _ _ _ _ _ q; exact wpAny_pure q) :
    codeAny (MM w) A (.forLoop target (.ref I) body [] env) R (S s₀ h tk) := by
  refine codeAny_forLoop_any (fun k s' => ∃ i G vs σ h tk oI, s' = S s₀ h tk ∧ St i h ∧ Mem G L nm vs ((I, oI) :: σ) h ∧ J i G vs σ ∧ i ≤ n ∧ k = n + 1 - i) ?_ (n + 1)
    ⟨0, G, vs, σ, h, tk, o0, rfl, hst, D, h0, Nat.zero_le _, rfl⟩
  rintro k s' ⟨i, G, vs, σ, h, tk, oI, rfl, hst, D, hJ, hi, rfl⟩
  have kpOf : ∀ h₁ : Heap, (∀ b o, b ∉ [I] → h.get? b = some o → h₁.get? b = some o) → Keep [I] h h₁ := fun h₁ k b o e n => k b o n e
  by_cases hlt : i < n
  · refine W.item i (S s₀ h tk) _ _ hlt hst fun v h₁ tk₁ hP hst₁ hk₁ => ?_
    obtain ⟨o', ho'⟩ := hI _ _ hst₁
    have D₁ := D.after1 (kpOf _ hk₁) .head ho'
    refine ht _ _ _ _ _ _ hst₁ ?_
    refine wpAny_mono (turn i G vs σ h₁ tk₁ v o' hlt hP hJ D₁) (fun _ s₂ z => wpAny_mono z (fun f s₃ t => ?_) f0_noted) f0_noted
    have fin : (∃ G vs σ h tk, s₃ = S s₀ h tk ∧ Mem G L nm vs ([(I, o')] ++ σ) h ∧ J (i + 1) G vs σ) → ∃ m, m < n + 1 - i ∧ ∃ i G vs σ h tk oI, s₃ = S s₀ h tk ∧ St i h ∧ Mem G L nm vs ((I, oI) :: σ) h ∧ J i G vs σ ∧ i ≤ n ∧ m = n + 1 - i := by
      rintro ⟨G', vs', σ', h', tk', rfl, D', hJ'⟩
      refine ⟨n + 1 - (i + 1), by omega, i + 1, G', vs', σ', h', tk', o', rfl, W.frame _ _ _ hst₁ fun b hb o e => ?_, D', hJ', hlt, rfl⟩
      by_cases hbI : b = I
      · subst hbI
        rw [ho'] at e
        cases e
        exact D'.get (.head _)
      · obtain ⟨ob, ko⟩ := hsrc b hb hbI
        have e1 := D₁.knows ((ko _ _ _ _ hJ).imp id (.tail _))
        have e2 := D'.knows ((ko _ _ _ _ hJ').imp id (.tail _))
        rw [e1] at e
        cases e
        exact e2
    cases f with
    | next => exact fin t
    | cont => exact fin t
    | brk => exact t
    | ret v => exact t
  · have hin : i = n := by omega
    subst hin
    refine W.done (S s₀ h tk) _ _ hst fun h₁ tk₁ hk₁ => wpAny_execs_nil ?_
    have D₁ : Mem G L nm vs σ h₁ := by
      refine D.change (fun o e => ?_) (fun b ob g e => ?_) (fun p hp => ?_) (fun p hp => D.off p (.tail _ hp)) (List.nodup_cons.mp D.nd).2
      · exact hk₁ _ _ (fun q => (D.off _ (.head _)).1 (List.mem_singleton.mp q).symm) e
      · exact hk₁ _ _ (fun q => by have := (D.off _ (.head _)).2; rw [List.mem_singleton.mp q, this] at g; cases g) e
      · refine hk₁ _ _ (fun q => ?_) (D.own p (.tail _ hp))
        exact (List.nodup_cons.mp D.nd).1 (List.mem_map.mpr ⟨p, hp, List.mem_singleton.mp q⟩)
    exact done G vs σ h₁ tk₁ hJ D₁

/-- the statement's frame: from its loop to it -/
theorem r_for {target iter : Expr} {body : List Stmt} {pos : Pos} {Q : Flow → Shared → Prop} {s : Shared}
    (hQ : wpAny (MM w) A (eval iter env) (fun x s₁ => wpAny (MM w) A (pyIter x) (fun it s₂ => codeAny (MM w) A (.forLoop target it body [] env) (fun r s' => match r with | .ok f => Q f s' | .error _ => False) s₂) F0 s₁) F0 s)
    (hs : ∀ x, foldedSetIterable iter env x = pure x := by intro _; rfl) :
    wpAny (MM w) A (exec (.For target iter body [] pos) env) Q F0 s := by
  refine wpAny_For (wpAny_mono hQ (fun x s₁ h₁ => wpAny_mono h₁ (fun it s₂ h₂ => codeAny_mono h₂ fun r s' z => ?_) fun _ _ z => z) fun _ _ z => z) hs
  cases r with
  | ok f => exact z
  | error e => exact z.elim

theorem letGo_listiter {target : Expr} {I l : Addr} {i : Nat} {v : Value} {Q' : Unit → Shared → Prop} {s' : Shared} {E : Value → Shared → Prop} (hit : s'.heap.IsListIter I l i) (h : Q' () s') :
    wpAny (MM w) A (letOwnedTupleGo target (.ref I) v) Q' E s' := by
  obtain ⟨o, ho, hc, hd⟩ := hit
  unfold letOwnedTupleGo
  cases target <;> first
    | exact wpAny_pure h
    | (cases v <;> first
        | exact wpAny_pure h
        | (refine wpAny_bind (wpAny_load ho ?_)
           rw [hc, hd]
           exact wpAny_pure h))
/-- over a list that the loop leaves alone -/
theorem r_iter_list {l : Addr} {xs : List Value} {n : Nat} {target : Expr} {body : List Stmt} {R : Result → Shared → Prop} {E : Value → Shared → Prop} (hh : A.handled = none)
    (D : Mem G L nm vs σ h) (J : Nat → Inv) (hsrc : ∀ i G vs σ, J i G vs σ → Knows G σ l (listOf xs.toArray n)) (h0 : J 0 G vs σ)
    (turn : ∀ i G vs σ h tk v I oI, xs[i]? = some v → J i G vs σ → Mem G L nm vs ((I, oI) :: σ) h →
      wpAny (MM w) A (assign target env v) (fun _ s₂ => wpAny (MM w) A (execs body env) (Turn s₀ L nm [(I, oI)] (J (i + 1)) R) F0 s₂) F0 (S s₀ h tk))
    (done : ∀ G vs σ h tk, J xs.length G vs σ → Mem G L nm vs σ h → R (.ok .next) (S s₀ h tk)) :
    wpAny (MM w) A (pyIter (.ref l)) (fun it s₂ => codeAny (MM w) A (.forLoop target it body [] env) R s₂) E (S s₀ h tk) := by
  have ol := D.knows (hsrc _ _ _ _ h0)
  have hl : (S s₀ h tk).heap.IsList l xs.toArray := ⟨_, ol, rfl, n, rfl⟩
  have hne : l ≠ h.objs.size := Nat.ne_of_lt (Heap.lt_size ol)
  refine wpAny_pyIter_list hl ?_
  have W := Walks.list (prog := PG) (w := w) hh h.objs.size l hne xs.toArray
  rw [List.size_toArray] at W
  refine loop_walk W (fun i h st => st.1.elim fun o z => ⟨o, z.1⟩) J (fun b hb hn => ?_) (D.push { cls := .type "list_iterator", data := .fields #[.ref l, .int 0 0] }) ⟨⟨_, Heap.get?_push_size _ rfl, rfl, rfl⟩, hl.push _⟩ h0
    (fun i G vs σ h tk v oI _ hP hJ D => turn i G vs σ h tk v _ oI (by simpa using hP) hJ D) done (fun i h tk v Q E st q => letGo_listiter (s' := S s₀ h tk) st.1 q)
  rcases List.mem_cons.mp hb with e | e
  · exact absurd e hn
  · exact ⟨_, fun i G vs σ j => (List.mem_singleton.mp e) ▸ hsrc i G vs σ j⟩

theorem r_iter_listP {l : Addr} {xs : List Value} {n : Nat} {target : Expr} {body : List Stmt} {R : Result → Shared → Prop} {E : Value → Shared → Prop} (hh : A.handled = none)
    (D : Mem G L nm vs σ h) (J : Nat → Inv) (hsrc : ∀ i G vs σ, J i G vs σ → Knows G σ l (listOf xs.toArray n)) (h0 : J 0 G vs σ)
    (turn : ∀ (R' : Result → Shared → Prop) i G vs σ h tk v I oI, xs[i]? = some v → J i G vs σ → Mem G L nm vs ((I, oI) :: σ) h →
      wpAny (MM w) A (assign target env v) (fun _ s₂ => wpAny (MM w) A (execs body env) (Turn s₀ L nm [(I, oI)] (J (i + 1)) R') F0 s₂) F0 (S s₀ h tk))
    (done : ∀ G vs σ h tk, J xs.length G vs σ → Mem G L nm vs σ h → R (.ok .next) (S s₀ h tk)) :
    wpAny (MM w) A (pyIter (.ref l)) (fun it s₂ => codeAny (MM w) A (.forLoop target it body [] env) R s₂) E (S s₀ h tk) :=
  r_iter_list hh D J hsrc h0 (turn R) done
/-- over a tuple -/
theorem r_iter_tuple {l : Addr} {xs : List Value} {n : Nat} {target : Expr} {body : List Stmt} {R : Result → Shared → Prop} {E : Value → Shared → Prop} (hh : A.handled = none)
    (D : Mem G L nm vs σ h) (J : Nat → Inv) (hsrc : ∀ i G vs σ, J i G vs σ → Knows G σ l { cls := .type "tuple", data := .seq xs.toArray n }) (h0 : J 0 G vs σ)
    (turn : ∀ i G vs σ h tk v I oI, xs[i]? = some v → J i G vs σ → Mem G L nm vs ((I, oI) :: σ) h →
      wpAny (MM w) A (assign target env v) (fun _ s₂ => wpAny (MM w) A (execs body env) (Turn s₀ L nm [(I, oI)] (J (i + 1)) R) F0 s₂) F0 (S s₀ h tk))
    (done : ∀ G vs σ h tk, J xs.length G vs σ → Mem G L nm vs σ h → R (.ok .next) (S s₀ h tk)) :
    wpAny (MM w) A (pyIter (.ref l)) (fun it s₂ => codeAny (MM w) A (.forLoop target it body [] env) R s₂) E (S s₀ h tk) := by
  have ol := D.knows (hsrc _ _ _ _ h0)
  have hl : (S s₀ h tk).heap.IsTuple l xs.toArray := ⟨_, ol, rfl, n, rfl⟩
  have hne : l ≠ h.objs.size := Nat.ne_of_lt (Heap.lt_size ol)
  refine wpAny_pyIter_tuple hl ?_
  have W := Walks.tuple (prog := PG) (w := w) hh h.objs.size l hne xs.toArray
  rw [List.size_toArray] at W
  have D1 := D.push { cls := .type "tuple_iterator", data := .fields #[.ref l, .int 0 0] }
  refine loop_walk W (fun i h st => st.1.elim fun o z => ⟨o, z.1⟩) J (fun b hb hn => ?_) D1 ⟨⟨_, Heap.get?_push_size _ rfl, rfl, rfl⟩, ⟨_, D1.knows ((hsrc _ _ _ _ h0).imp id (.tail _)), rfl, n, rfl⟩⟩ h0
    (fun i G vs σ h tk v oI _ hP hJ D => turn i G vs σ h tk v _ oI (by simpa using hP) hJ D) done (fun i h tk v Q E st q => letGo_tupleiter (s' := S s₀ h tk) st.1 q)
  rcases List.mem_cons.mp hb with e | e
  · exact absurd e hn
  · exact ⟨_, fun i G vs σ j => (List.mem_singleton.mp e) ▸ hsrc i G vs σ j⟩
theorem r_iter_tupleP {l : Addr} {xs : List Value} {n : Nat} {target : Expr} {body : List Stmt} {R : Result → Shared → Prop} {E : Value → Shared → Prop} (hh : A.handled = none)
    (D : Mem G L nm vs σ h) (J : Nat → Inv) (hsrc : ∀ i G vs σ, J i G vs σ → Knows G σ l { cls := .type "tuple", data := .seq xs.toArray n }) (h0 : J 0 G vs σ)
    (turn : ∀ (R' : Result → Shared → Prop) i G vs σ h tk v I oI, xs[i]? = some v → J i G vs σ → Mem G L nm vs ((I, oI) :: σ) h →
      wpAny (MM w) A (assign target env v) (fun _ s₂ => wpAny (MM w) A (execs body env) (Turn s₀ L nm [(I, oI)] (J (i + 1)) R') F0 s₂) F0 (S s₀ h tk))
    (done : ∀ G vs σ h tk, J xs.length G vs σ → Mem G L nm vs σ h → R (.ok .next) (S s₀ h tk)) :
    wpAny (MM w) A (pyIter (.ref l)) (fun it s₂ => codeAny (MM w) A (.forLoop target it body [] env) R s₂) E (S s₀ h tk) :=
  r_iter_tuple hh D J hsrc h0 (turn R) done
end
/-! B6 -/
abbrev ik (w : World) : PySem.KeyKind PG w Int := intKind PG w
/-- a dict with int keys -/
def ID (w : World) (d : Addr) (o : Obj) (kvs : List (Int × Value)) : Prop := (d == sysModules) = false ∧ o.IsDictOf (ik w) kvs
abbrev tkd (w : World) : PySem.HeapKind PG w (List Int) := tupleKind (ik w)
/-- a dict with tuples of ints as keys -/
def TD (w : World) (d : Addr) (o : Obj) (xs : List (List Int × Addr × Value)) : Prop :=
  (d == sysModules) = false ∧ ∃ es ep, o.ExactDict ∧ o.data = .dict es ep ∧ es.toList = xs.map (entryOfKey (tkd w)) ∧ (xs.map (·.1)).Nodup
def TKs (w : World) (G : Gh) (σ : List (Addr × Obj)) (xs : List (List Int × Addr × Value)) : Prop := ∀ x ∈ xs, ∃ o, Knows G σ x.2.1 o ∧ TupKeyObj (ik w) x.1 o

section
variable {w : World} {A : Around} {G : Gh} {L : Addr} {nm : List Str} {vs vs' : List (Option Value)} {σ σ' : List (Addr × Obj)} {h : Heap} {s₀ : Shared} {tk : Nat} {env : Env} {E : Value → Shared → Prop}
  {d : Addr} {o : Obj} {kvs : List (Int × Value)} {k : Int} {t : Tok} {v : Value}

theorem Gnd.low (Γ : Gnd w G) (k : ∀ b o, G b = some o → h.get? b = some o) : sysModules < h.objs.size := modules_low (Γ.nolimit k)

theorem id_at (D : Mem G L nm vs σ h) (kn : Knows G σ d o) (I : ID w d o kvs) : (S s₀ h tk).heap.DictOf (ik w) d kvs := Heap.dictOf_iff.mpr ⟨o, D.knows kn, I.2⟩
theorem td_at {xs : List (List Int × Addr × Value)} (D : Mem G L nm vs σ h) (kn : Knows G σ d o) (T : TD w d o xs) (K : TKs w G σ xs) : (S s₀ h tk).heap.DictOfH (tkd w) d xs := by
  obtain ⟨_, es, ep, h1, h2, h3, h4⟩ := T
  refine ⟨o, es, ep, D.knows kn, h1, h2, h3, fun x hx => ?_, h4⟩
  obtain ⟨ox, kx, tx⟩ := K x hx
  exact tx.key (D.knows kx)

theorem d_new {pos : Pos} {Q : Value → Shared → Prop} (Γ : Gnd w G) (D : Mem G L nm vs σ h) (hQ : ∀ d h' o, Mem G L nm vs ((d, o) :: σ) h' → ID w d o [] → TD w d o [] → Q (.ref d) (S s₀ h' tk)) :
    wpAny (MM w) A (eval (.Dict [] [] pos) env) Q E (S s₀ h tk) := by
  have lo : (h.objs.size == sysModules) = false := beq_eq_false_iff_ne.mpr (Nat.ne_of_gt (Γ.low D.keep))
  refine wpAny_Dict_empty (s := S s₀ h tk) (hQ _ _ _ (D.push { cls := .type "dict", data := .dict #[] }) ⟨lo, ?_⟩ ⟨lo, ?_⟩)
  · obtain ⟨o, ho, hd⟩ := Heap.dictOf_iff.mp (Heap.DictOf.new (knd := ik w) h)
    rw [Heap.get?_push_size _ rfl] at ho
    exact (Option.some.inj ho) ▸ hd
  · obtain ⟨o, es, ep, ho, h1, h2, h3, _, h4⟩ := Heap.DictOfH.new (knd := tkd w) h
    rw [Heap.get?_push_size _ rfl] at ho
    rw [Option.some.inj ho]
    exact ⟨es, ep, h1, h2, h3, h4⟩

theorem id_set {Q : Unit → Shared → Prop} (D : Mem G L nm vs σ h) (hm : (d, o) ∈ σ) (I : ID w d o kvs) (hz : kvs.length ≤ 2 ^ 20)
    (hQ : ∀ h' tk' o', ID w d o' (stored kvs k v) → (∀ σ', Rep d o o' σ σ' → Mem G L nm vs σ' h') → Q () (S s₀ h' tk')) : wpAny (MM w) A (setItem (.ref d) (.int k t) v) Q E (S s₀ h tk) := by
  refine wpAny_setItem_pairs (s := S s₀ h tk) (intKind_is PG w k t) (id_at D (.inr hm) I) (fun h' hd hs => ?_) (by rw [sizeLine_eq]; omega)
  obtain ⟨o', ho', hd'⟩ := Heap.dictOf_iff.mp hd
  exact hQ h' (tk + 1) o' ⟨I.1, hd'⟩ fun σ' r => D.same r hs ho'
theorem id_in {Q : Value → Shared → Prop} (D : Mem G L nm vs σ h) (kn : Knows G σ d o) (I : ID w d o kvs) (hQ : ∀ tk', Q (.bool (valueAt kvs k).isSome) (S s₀ h tk')) : wpAny (MM w) A (compareOp .In (.int k t) (.ref d)) Q E (S s₀ h tk) :=
  wpAny_in_of (s := S s₀ h tk) (intKind_is PG w k t) I.1 (id_at D kn I).mapOf (hQ (tk + 1))
theorem id_notin {Q : Value → Shared → Prop} (D : Mem G L nm vs σ h) (kn : Knows G σ d o) (I : ID w d o kvs) (hQ : ∀ tk', Q (.bool (!(valueAt kvs k).isSome)) (S s₀ h tk')) : wpAny (MM w) A (compareOp .NotIn (.int k t) (.ref d)) Q E (S s₀ h tk) :=
  wpAny_notIn_of (s := S s₀ h tk) (intKind_is PG w k t) I.1 (id_at D kn I).mapOf (hQ (tk + 1))
theorem id_get {dflt : Value} {Q : Value → Shared → Prop} (D : Mem G L nm vs σ h) (kn : Knows G σ d o) (I : ID w d o kvs) (hQ : ∀ tk', Q ((valueAt kvs k).getD dflt) (S s₀ h tk')) :
    wpAny (MM w) A (call (.builtin "dict.get") [.ref d, .int k t, dflt]) Q E (S s₀ h tk) :=
  have hm := id_at (s₀ := s₀) (tk := tk) D kn I
  call_meetsIn (s := S s₀ h tk) PySem.F.slot_dict_get hm.typeIs PySem.F.entry_dict_get (PySem.F.args_dict_get_3 _ _ _) (meets_dict_get_default (ik w) d (intKind_is PG w k t) I.1 dflt) ⟨_, hm.mapOf, hQ (tk + 1)⟩
theorem id_item {value slice : Expr} {Q : Value → Shared → Prop} (D : Mem G L nm vs σ h) (kn : Knows G σ d o) (I : ID w d o kvs) (hv : valueAt kvs k = some v) (hQ : ∀ tk', Q v (S s₀ h tk'))
    (hs : subscripted slice false (.ref d) (.int k t) = operate [.ref d, .int k t] (getItem (.ref d) (.int k t)) := by with_unfolding_all rfl) :
    wpAny (MM w) A (subscriptTail value slice (.ref d) (.int k t)) Q E (S s₀ h tk) :=
  have hm := id_at (s₀ := s₀) (tk := tk) D kn I
  tail_any hm.typeIs slot_dict_getitem.lookup (wpAny_getItem_of (intKind_is PG w k t) hm.mapOf hv (hQ (tk + 1))) hs

theorem td_notin {a : Addr} {ks : List Int} {ok : Obj} {xs : List (List Int × Addr × Value)} {Q : Value → Shared → Prop} (hu : A.units + 1 < cLine) (D : Mem G L nm vs σ h) (kn : Knows G σ d o) (T : TD w d o xs) (K : TKs w G σ xs) (ka : Knows G σ a ok) (ta : TupKeyObj (ik w) ks ok)
    (hQ : ∀ tk', Q (.bool (!(atKey xs ks).isSome)) (S s₀ h tk')) : wpAny (MM w) A (compareOp .NotIn (.ref a) (.ref d)) Q E (S s₀ h tk) :=
  wpAny_notIn_heap (s := S s₀ h tk) (knd := tkd w) (tupleKind_room_in1 hu) (ta.key (D.knows ka)) T.1 (td_at D kn T K) (hQ _)
theorem td_item {a : Addr} {ks : List Int} {ok : Obj} {xs : List (List Int × Addr × Value)} {p : Addr × Value} {value slice : Expr} {Q : Value → Shared → Prop} (hu : A.units + 1 < cLine) (D : Mem G L nm vs σ h) (kn : Knows G σ d o) (T : TD w d o xs) (K : TKs w G σ xs) (ka : Knows G σ a ok) (ta : TupKeyObj (ik w) ks ok)
    (hp : atKey xs ks = some p) (hQ : ∀ tk', Q p.2 (S s₀ h tk')) (hs : subscripted slice false (.ref d) (.ref a) = operate [.ref d, .ref a] (getItem (.ref d) (.ref a)) := by with_unfolding_all rfl) :
    wpAny (MM w) A (subscriptTail value slice (.ref d) (.ref a)) Q E (S s₀ h tk) :=
  have hm := td_at (s₀ := s₀) (tk := tk) D kn T K
  tail_any hm.typeIs slot_dict_getitem.lookup (wpAny_getItem_heap (knd := tkd w) (tupleKind_room_in1 hu) (ta.key (D.knows ka)) hm hp (hQ _)) hs
theorem td_set {a : Addr} {ks : List Int} {ok : Obj} {xs : List (List Int × Addr × Value)} {Q : Unit → Shared → Prop} (hu : A.units + 1 < cLine) (D : Mem G L nm vs σ h) (hm : (d, o) ∈ σ) (T : TD w d o xs) (K : TKs w G σ xs) (ka : Knows G σ a ok) (ta : TupKeyObj (ik w) ks ok) (hz : xs.length ≤ 2 ^ 20)
    (hQ : ∀ h' tk' o', TD w d o' (storedH xs ks a v) → (∀ σ', Rep d o o' σ σ' → Mem G L nm vs σ' h') → Q () (S s₀ h' tk')) : wpAny (MM w) A (setItem (.ref d) (.ref a) v) Q E (S s₀ h tk) := by
  refine wpAny_setItem_heap (s := S s₀ h tk) (knd := tkd w) (tupleKind_room_in1 hu) (ta.key (D.knows ka)) (td_at D (.inr hm) T K) (fun h' hd hs => ?_) (by rw [sizeLine_eq]; omega)
  obtain ⟨o', es, ep, ho', h1, h2, h3, _, h4⟩ := hd
  exact hQ h' _ o' ⟨T.1, es, ep, h1, h2, h3, h4⟩ fun σ' r => D.same r hs ho'

/-! a class called -/
theorem mk {C fI : Addr} {nf : List Str} {rest : List Value} {Q : Value → Shared → Prop} (Γ : Gnd w G) (D : Mem G L nm vs σ h) (hm : makesIn (KK w) C = true) (hi : findIn (KK w) (.ref C) "__init__" = some (some (.ref fI))) (hf : typeIn (KK w) (.ref fI) = some (.type "function"))
    (hQ : ∀ x dx h' o, Mem G L nm vs ((x, instObj C dx) :: (dx, o) :: σ) h' → FD o nf (nf.map fun _ => none) →
      codeAny (MM w) (A.under (.builtin "type.__call__" ⟨.ref C :: rest, []⟩)) (.call (.ref fI) ⟨.ref x :: rest, []⟩) (fun r s' => match r with | .ok (.ret v) => v = .none ∧ Q (.ref x) s' | _ => False) (S s₀ h' tk)) :
    wpAny (MM w) A (call (.ref C) rest) Q E (S s₀ h tk) := by
  refine wpAny_call (make_core (h := h) (makes_of (Γ.kin D.keep) hm) (looks_findIn (Γ.kin D.keep) hi) (fun self => bind_fn (Γ.kin D.keep) self hf) (.inl rfl) ?_)
  have D1 := (D.push emptyDict).push (instObj C h.objs.size)
  rw [Heap.size_push] at D1
  refine codeAny_mono (hQ (h.objs.size + 1) h.objs.size _ _ D1 (FD.nil nf)) fun r s' z => ?_
  rcases r with e | (v | _ | _ | _)
  · exact z.elim
  all_goals first | exact z | exact z.elim
end
/-! Det -/
/-- what stands behind a step -/
def Behind (M : Model) (Γ : Ctx) (F : Frame) (fs : List Frame) (e₁ : End) (s₁ : Shared) (e : End) (s' : Shared) : Prop :=
  match e₁ with
  | .ret r => (match F with
    | .ret k _ _ _ c₁ p₁ _ => Runs M (Γ.goto c₁) p₁ (k r) fs s₁ e s'
    | .gen g k _ c₁ p₁ => Runs M (Γ.goto c₁) p₁ (k (End.ret r).result) fs (s₁.setGen g .finished) e s')
  | .susp v g₀ l₀ k₀ c₀ p₀ fs₀ => (match splitAtGen (F :: fs) with
    | none => e = .susp v g₀ l₀ k₀ c₀ p₀ (fs₀ ++ F :: fs) ∧ s' = s₁
    | some (pre, (g, k, c₁, p₁), rest) => Runs M (Γ.goto c₁) p₁ (k (.yielded v)) rest (s₁.setGen g (End.susp v g₀ l₀ k₀ c₀ p₀ (fs₀ ++ pre)).genState) e s')
def Woken (M : Model) (Γ : Ctx) (p : Pos) (g : Nat) (r : Resume) (k : GenResult → Sem Fin) (s : Shared) (e : End) (s' : Shared) : Prop :=
  match s.gens[g]? with
  | none => False
  | some .running => Runs M Γ p (k .running) [] s e s'
  | some .finished => Runs M Γ p (k .finished) [] s e s'
  | some (.suspended k₀ _ c₀ p₀ fs _) => ∃ e₁ s₁, Runs M (Γ.wake c₀ p) p₀ (k₀ r) fs (s.setGen g .running) e₁ s₁ ∧ Runs M Γ p (k e₁.result) [] (s₁.setGen g e₁.genState) e s'
  | some (.fresh c) => (match r with
    | .throw x => Runs M Γ p (k (.raised x)) [] (s.setGen g .finished) e s'
    | .send v => (v = .none ∧ ∃ e₁ s₁, Runs M (Γ.wake c p) p (M.den c) [] (s.setGen g .running) e₁ s₁ ∧ Runs M Γ p (k e₁.result) [] (s₁.setGen g e₁.genState) e s') ∨ (v ≠ .none ∧ Runs M Γ p (k .justStarted) [] s e s'))
def Step (M : Model) (Γ : Ctx) (p : Pos) (t : Sem PySem.Fin) (s : Shared) (e : End) (s' : Shared) : Prop :=
  match t with
  | .pure (.done f) => e = .ret (.ok f) ∧ s' = s
  | .pure (.again c) => Runs M (Γ.goto c) p (M.den c) [] s e s'
  | .raise x => e = .ret (.error x) ∧ s' = s
  | .rule _ k => Runs M Γ p (k ()) [] s e s'
  | .at p' k => Runs M Γ p' (k ()) [] s e s'
  | .load a _ k => ∃ o, s.heap.get? a = some o ∧ Runs M Γ p (k o) [] s e s'
  | .update a _ f k => Runs M Γ p (k ()) [] { s with heap := s.heap.update a f } e s'
  | .loadIfAlive a k => Runs M Γ p (k (s.heap.get? a)) [] s e s'
  | .point _ k => Runs M Γ p (k ()) [] s e s'
  | .alloc o k => Runs M Γ p (k s.heap.objs.size) [] { s with heap := s.heap.push o } e s'
  | .fresh k => Runs M Γ p (k s.toks) [] { s with toks := s.toks + 1 } e s'
  | .ask k => Runs M Γ p (k ⟨M.prog, M.w.params⟩) [] s e s'
  | .choose src n k => Runs M Γ p (k (M.w.draws src (s.drawn.get src) % n)) [] { s with drawn := s.drawn.bump src } e s'
  | .os q _ k => Runs M Γ p (k (Os.step s.os q).2) [] { s with os := (Os.step s.os q).1 } e s'
  | .handled own k => Runs M Γ p (k (if own then Γ.own else Γ.handled)) [] s e s'
  | .genState g k => ∃ st, s.gens[g]? = some st ∧ Runs M Γ p (k st.seen) [] s e s'
  | .stack k => Runs M Γ p (k ((Γ.code, p) :: Γ.below)) [] s e s'
  | .thread k => Runs M Γ p (k 0) [] s e s'
  | .newGen c k => Runs M Γ p (k s.gens.size) [] { s with gens := s.gens.push (.fresh c) } e s'
  | .call c h g l k => ∃ e₁ s₁, Runs M (Γ.enter c h p) p (M.den c) [] s e₁ s₁ ∧ (match e₁ with
    | .ret r => Runs M Γ p (k r) [] s₁ e s'
    | .susp v g₀ l₀ k₀ c₀ p₀ fs => e = .susp v g₀ l₀ k₀ c₀ p₀ (fs ++ [.ret k h g l Γ.code p []]) ∧ s' = s₁)
  | .yield v g l k => e = .susp v g l k Γ.code p [] ∧ s' = s
  | .resume g r _ k => Woken M Γ p g r k s e s'
  | _ => False
def Inverse (M : Model) (Γ : Ctx) (p : Pos) (t : Sem PySem.Fin) (fs : List Frame) (s : Shared) (e : End) (s' : Shared) : Prop :=
  match fs with
  | [] => Step M Γ p t s e s'
  | F :: fs => ∃ e₁ s₁, Runs M (Γ.over (F :: fs)) p t [] s e₁ s₁ ∧ Behind M Γ F fs e₁ s₁ e s'
theorem runs_inverse {M : Model} {Γ : Ctx} {p : Pos} {t : Sem PySem.Fin} {fs : List Frame} {s s' : Shared} {e : End} (h : Runs M Γ p t fs s e s') : Inverse M Γ p t fs s e s' := by
  induction h with
  | done => exact ⟨rfl, rfl⟩
  | raise => exact ⟨rfl, rfl⟩
  | again _ h _ => exact h
  | rule h _ => exact h
  | «at» h _ => exact h
  | load e h _ => exact ⟨_, e, h⟩
  | update _ h _ => exact h
  | loadIfAlive h _ => exact h
  | point h _ => exact h
  | alloc h _ => exact h
  | fresh h _ => exact h
  | ask h _ => exact h
  | choose _ h _ => exact h
  | os h _ => exact h
  | handled h _ => exact h
  | genState e h _ => exact ⟨_, e, h⟩
  | stack h _ => exact h
  | thread h _ => exact h
  | newGen h _ => exact h
  | call h1 h2 _ _ => exact ⟨_, _, h1, h2⟩
  | callSusp h1 _ => exact ⟨_, _, h1, rfl, rfl⟩
  | yield => exact ⟨rfl, rfl⟩
  | resumeFresh g h1 _ h2 _ _ => show Woken ..; unfold Woken; rw [g]; exact .inl ⟨rfl, _, _, h1, h2⟩
  | resumeSuspended g h1 _ h2 _ _ => show Woken ..; unfold Woken; rw [g]; exact ⟨_, _, h1, h2⟩
  | resumeJustStarted g n h _ => show Woken ..; unfold Woken; rw [g]; exact .inr ⟨n, h⟩
  | resumeThrowFresh g h _ => show Woken ..; unfold Woken; rw [g]; exact h
  | resumeRunning g h _ => show Woken ..; unfold Woken; rw [g]; exact h
  | resumeFinished g h _ => show Woken ..; unfold Woken; rw [g]; exact h
  | segRet h1 h2 _ _ => exact ⟨_, _, h1, h2⟩
  | segGen h1 h2 _ _ => exact ⟨_, _, h1, h2⟩
  | segSuspOut n h1 _ => refine ⟨_, _, h1, ?_⟩; unfold Behind; dsimp only; rw [n]; exact ⟨rfl, rfl⟩
  | segSuspGen n h1 _ h2 _ _ => refine ⟨_, _, h1, ?_⟩; unfold Behind; dsimp only; rw [n]; exact h2
theorem runs_det {M : Model} {Γ : Ctx} {p : Pos} {t : Sem PySem.Fin} {fs : List Frame} {s s' : Shared} {e : End} (h : Runs M Γ p t fs s e s') :
    ∀ {e₂ : End} {s₂ : Shared}, Runs M Γ p t fs s e₂ s₂ → e₂ = e ∧ s₂ = s' := by
  induction h with
  | done => exact fun h => runs_inverse h
  | raise => exact fun h => runs_inverse h
  | again _ _ ih => exact fun h => ih (runs_inverse h)
  | rule _ ih => exact fun h => ih (runs_inverse h)
  | «at» _ ih => exact fun h => ih (runs_inverse h)
  | load e _ ih => exact fun h => by obtain ⟨o, e', h⟩ := runs_inverse h; rw [e] at e'; cases e'; exact ih h
  | update _ _ ih => exact fun h => ih (runs_inverse h)
  | loadIfAlive _ ih => exact fun h => ih (runs_inverse h)
  | point _ ih => exact fun h => ih (runs_inverse h)
  | alloc _ ih => exact fun h => ih (runs_inverse h)
  | fresh _ ih => exact fun h => ih (runs_inverse h)
  | ask _ ih => exact fun h => ih (runs_inverse h)
  | choose _ _ ih => exact fun h => ih (runs_inverse h)
  | os _ ih => exact fun h => ih (runs_inverse h)
  | handled _ ih => exact fun h => ih (runs_inverse h)
  | genState e _ ih => exact fun h => by obtain ⟨o, e', h⟩ := runs_inverse h; rw [e] at e'; cases e'; exact ih h
  | stack _ ih => exact fun h => ih (runs_inverse h)
  | thread _ ih => exact fun h => ih (runs_inverse h)
  | newGen _ ih => exact fun h => ih (runs_inverse h)
  | call _ _ i1 i2 => exact fun h => by obtain ⟨_, _, h1, h2⟩ := runs_inverse h; obtain ⟨rfl, rfl⟩ := i1 h1; exact i2 h2
  | callSusp _ i1 => exact fun h => by obtain ⟨_, _, h1, h2⟩ := runs_inverse h; obtain ⟨rfl, rfl⟩ := i1 h1; exact h2
  | yield => exact fun h => runs_inverse h
  | resumeFresh g _ _ _ i1 i2 =>
    exact fun h => by
      have h : Woken .. := runs_inverse h
      unfold Woken at h
      rw [g] at h
      rcases h with ⟨_, _, _, h1, h2⟩ | ⟨n, _⟩
      · obtain ⟨rfl, rfl⟩ := i1 h1
        exact i2 h2
      · exact absurd rfl n
  | resumeSuspended g _ _ _ i1 i2 =>
    exact fun h => by
      have h : Woken .. := runs_inverse h
      unfold Woken at h
      rw [g] at h
      obtain ⟨_, _, h1, h2⟩ := h
      obtain ⟨rfl, rfl⟩ := i1 h1
      exact i2 h2
  | resumeJustStarted g n _ ih =>
    exact fun h => by
      have h : Woken .. := runs_inverse h
      unfold Woken at h
      rw [g] at h
      rcases h with ⟨e, _⟩ | ⟨_, h⟩
      · exact absurd e n
      · exact ih h
  | resumeThrowFresh g _ ih =>
    exact fun h => by
      have h : Woken .. := runs_inverse h
      unfold Woken at h
      rw [g] at h
      exact ih h
  | resumeRunning g _ ih =>
    exact fun h => by
      have h : Woken .. := runs_inverse h
      unfold Woken at h
      rw [g] at h
      exact ih h
  | resumeFinished g _ ih =>
    exact fun h => by
      have h : Woken .. := runs_inverse h
      unfold Woken at h
      rw [g] at h
      exact ih h
  | segRet _ _ i1 i2 => exact fun h => by obtain ⟨_, _, h1, h2⟩ := runs_inverse h; obtain ⟨rfl, rfl⟩ := i1 h1; exact i2 h2
  | segGen _ _ i1 i2 => exact fun h => by obtain ⟨_, _, h1, h2⟩ := runs_inverse h; obtain ⟨rfl, rfl⟩ := i1 h1; exact i2 h2
  | segSuspOut n _ i1 =>
    exact fun h => by
      obtain ⟨_, _, h1, h2⟩ := runs_inverse h
      obtain ⟨rfl, rfl⟩ := i1 h1
      unfold Behind at h2
      dsimp only at h2
      rw [n] at h2
      exact h2
  | segSuspGen n _ _ _ i1 i2 =>
    exact fun h => by
      obtain ⟨_, _, h1, h2⟩ := runs_inverse h
      obtain ⟨rfl, rfl⟩ := i1 h1
      unfold Behind at h2
      dsimp only at h2
      rw [n] at h2
      exact i2 h2
/-! Both -/
theorem wakes_det {M : Model} {Γ : Ctx} {p : Pos} {g : Nat} {r : Resume} {s s₁ s₂ : Shared} {a b : GenResult} (h : Wakes M Γ p g r s a s₁) (h2 : Wakes M Γ p g r s b s₂) : b = a ∧ s₂ = s₁ := by
  unfold Wakes at h h2
  cases hg : s.gens[g]? with
  | none => rw [hg] at h; cases h
  | some st =>
    rw [hg] at h h2
    cases st with
    | fresh c =>
      cases r with
      | send v =>
        cases v with
        | none =>
          obtain ⟨e, t, h1, _, rfl, rfl⟩ := h
          obtain ⟨e', t', h1', _, rfl, rfl⟩ := h2
          obtain ⟨rfl, rfl⟩ := runs_det h1 h1'
          exact ⟨rfl, rfl⟩
        | _ => obtain ⟨rfl, rfl⟩ := h; exact h2
      | throw x => obtain ⟨rfl, rfl⟩ := h; exact h2
    | suspended =>
      obtain ⟨e, t, h1, _, rfl, rfl⟩ := h
      obtain ⟨e', t', h1', _, rfl, rfl⟩ := h2
      obtain ⟨rfl, rfl⟩ := runs_det h1 h1'
      exact ⟨rfl, rfl⟩
    | running => obtain ⟨rfl, rfl⟩ := h; exact h2
    | finished => obtain ⟨rfl, rfl⟩ := h; exact h2

theorem wp_both {ι α : Type} [Nonempty ι] {M : Model} {Γ : Ctx} (t : Sem α) : ∀ {Q : ι → α → Pos → Shared → Prop} {E : ι → Value → Pos → Shared → Prop} {p : Pos} {s : Shared}, (∀ i, Sem.wp M Γ t (Q i) (E i) p s) →
    Sem.wp M Γ t (fun a p s => ∀ i, Q i a p s) (fun e p s => ∀ i, E i e p s) p s := by
  obtain ⟨i0⟩ := ‹Nonempty ι›
  induction t with
  | pure a => intro Q E p s h; exact h
  | raise e => intro Q E p s h; exact h
  | unsupported w => intro Q E p s h; exact h i0
  | finish e => intro Q E p s h; exact h i0
  | rule _ _ ih => intro Q E p s h; exact ih () h
  | «at» _ _ ih => intro Q E p s h; exact ih () h
  | load a _ k ih =>
    intro Q E p s h
    obtain ⟨o, ho, _⟩ := h i0
    refine ⟨o, ho, ih o fun i => ?_⟩
    obtain ⟨o', ho', hi⟩ := h i
    rw [ho] at ho'; cases ho'; exact hi
  | update a _ f k ih => intro Q E p s h; exact ⟨(h i0).1, ih () fun i => (h i).2⟩
  | alloc o k ih => intro Q E p s h; exact ih _ h
  | loadIfAlive a k ih => intro Q E p s h; exact ih _ h
  | point _ k ih => intro Q E p s h; exact ih () h
  | register a k ih => intro Q E p s h; exact h i0
  | fresh k ih => intro Q E p s h; exact ih _ h
  | ask k ih => intro Q E p s h; exact ih _ h
  | choose src n k ih => intro Q E p s h; exact ⟨(h i0).1, ih _ fun i => (h i).2⟩
  | os q _ k ih => intro Q E p s h; exact ih _ h
  | call c hd g l k ih =>
    intro Q E p s h
    obtain ⟨r, s1, hr, _⟩ := h i0
    refine ⟨r, s1, hr, ih r fun i => ?_⟩
    obtain ⟨r', s1', hr', hi⟩ := h i
    obtain ⟨q, rfl⟩ := runs_det hr hr'
    cases q
    exact hi
  | handled own k ih => intro Q E p s h; exact ih _ h
  | newGen c k ih => intro Q E p s h; exact ih _ h
  | genState g k ih =>
    intro Q E p s h
    obtain ⟨st, hst, _⟩ := h i0
    refine ⟨st, hst, ih _ fun i => ?_⟩
    obtain ⟨st', hst', hi⟩ := h i
    rw [hst] at hst'; cases hst'; exact hi
  | resume g r _ k ih =>
    intro Q E p s h
    obtain ⟨res, s1, hr, _⟩ := h i0
    refine ⟨res, s1, hr, ih res fun i => ?_⟩
    obtain ⟨res', s1', hr', hi⟩ := h i
    obtain ⟨rfl, rfl⟩ := wakes_det hr hr'
    exact hi
  | yield => intro Q E p s h; exact h i0
  | stack k ih => intro Q E p s h; exact ih _ h
  | fork => intro Q E p s h; exact h i0
  | thread k ih => intro Q E p s h; exact ih _ h
  | await => intro Q E p s h; exact h i0

theorem wpAny_both {ι α : Type} [Nonempty ι] {M : Model} {A : Around} {t : Sem α} {Q : ι → α → Shared → Prop} {E : Value → Shared → Prop} {s : Shared} (h : ∀ i, wpAny M A t (Q i) E s) : wpAny M A t (fun a s => ∀ i, Q i a s) E s :=
  fun Γ p hΓ => Sem.wp_mono M Γ t (fun _ _ _ z => z) (fun _ _ _ z => z (Classical.choice ‹Nonempty ι›)) p s (wp_both t (fun i => h i Γ p hΓ))

/-- what is told of each object is told of all -/
theorem frame_all {α : Type} {M : Model} {A : Around} {t : Sem α} {E : Value → Shared → Prop} {s₀ : Shared} {h : Heap} {tk : Nat} {L : Addr} {m : Str → Option Value} {P : α → Heap → Prop}
    (hX : ∀ news : List (Addr × Obj), (∀ p ∈ news, h.get? p.1 = some p.2 ∧ p.1 ≠ L) → wpAny M A t (fun a s' => ∃ h' tk', s' = S s₀ h' tk' ∧ h'.Ns L m ∧ (∀ p ∈ news, h'.get? p.1 = some p.2) ∧ P a h') E (S s₀ h tk)) :
    wpAny M A t (fun a s' => ∃ h' tk', s' = S s₀ h' tk' ∧ h'.Ns L m ∧ (∀ b o, h.get? b = some o → b ≠ L → h'.get? b = some o) ∧ P a h') E (S s₀ h tk) := by
  have key := wpAny_both (ι := Option { p : Addr × Obj // h.get? p.1 = some p.2 ∧ p.1 ≠ L }) (fun i => hX (match i with | none => [] | some p => [p.1]) (by
    cases i with
    | none => intro p hp; cases hp
    | some p => intro q hq; rw [List.mem_singleton.mp hq]; exact p.2))
  refine wpAny_mono key (fun a s' hz => ?_) fun _ _ z => z
  obtain ⟨h', tk', rfl, hn, _, hp⟩ := hz none
  refine ⟨h', tk', rfl, hn, fun b o e ne => ?_, hp⟩
  obtain ⟨h2, tk2, e2, _, hk, _⟩ := hz (some ⟨(b, o), e, ne⟩)
  have : h2 = h' := (congrArg Shared.heap e2).symm
  rw [← this]
  exact hk (b, o) (.head _)
/-! B8 -/
section
variable {w : World} {A : Around} {G : Gh} {L : Addr} {nm : List Str} {vs vs' : List (Option Value)} {σ σ' : List (Addr × Obj)} {h : Heap} {s₀ : Shared} {tk : Nat} {env : Env} {E : Value → Shared → Prop}

/-- what the frame does not own stays: G grown to the heap -/
theorem Mem.rebase (D : Mem G L nm vs σ h) : Mem (hide (L :: σ.map (·.1)) h) L nm vs σ h where
  ns := D.ns
  keep := fun b o e => hide_of e
  own := D.own
  off := fun p hp => ⟨(D.off p hp).1, hide_none (.tail _ (List.mem_map_of_mem hp))⟩
  nd := D.nd
  loc := hide_none (.head _)
  nmnd := D.nmnd
theorem Mem.base_le (D : Mem G L nm vs σ h) {b : Addr} {o : Obj} (e : G b = some o) : hide (L :: σ.map (·.1)) h b = some o :=
  hide_some (D.keep b o e) fun m => by
    rcases List.mem_cons.mp m with rfl | m
    · rw [D.loc] at e; cases e
    · obtain ⟨p, hp, rfl⟩ := List.mem_map.mp m
      rw [(D.off p hp).2] at e; cases e
theorem Mem.gnd (D : Mem G L nm vs σ h) (Γ : Gnd w G) : Gnd w (hide (L :: σ.map (·.1)) h) := Γ.mono fun _ _ e => D.base_le e
/-- some of σ handed to G -/
theorem Mem.give {p : Addr × Obj} (D : Mem G L nm vs (p :: σ) h) : Mem (hide (L :: σ.map (·.1)) h) L nm vs σ h ∧ hide (L :: σ.map (·.1)) h p.1 = some p.2 := by
  refine ⟨D.tail.rebase, hide_some (D.own p (.head _)) fun m => ?_⟩
  rcases List.mem_cons.mp m with e | m
  · exact (D.off p (.head _)).1 e
  · exact (List.nodup_cons.mp D.nd).1 m

/-! methods of lists and dicts got -/
theorem gm_append {a : Addr} {o : Obj} {pl : Sem Bool} {Q : Value × List Value → Shared → Prop} (D : Mem G L nm vs σ h) (kn : Knows G σ a o) (hQ : Q (.builtin "list.append", [.ref a]) (S s₀ h tk)) (hc : o.cls = .type "list" := by rfl) (hd : o.dict = none := by rfl) :
    wpAny (MM w) A (getMethod (.ref a) "append" pl) Q E (S s₀ h tk) := gm D kn hc hd PySem.F.plainAttrs_list PySem.F.slot_list_append PySem.F.type_list_append hQ
theorem gm_extend {a : Addr} {o : Obj} {pl : Sem Bool} {Q : Value × List Value → Shared → Prop} (D : Mem G L nm vs σ h) (kn : Knows G σ a o) (hQ : Q (.builtin "list.extend", [.ref a]) (S s₀ h tk)) (hc : o.cls = .type "list" := by rfl) (hd : o.dict = none := by rfl) :
    wpAny (MM w) A (getMethod (.ref a) "extend" pl) Q E (S s₀ h tk) := gm D kn hc hd PySem.F.plainAttrs_list PySem.F.slot_list_extend PySem.F.type_list_extend hQ
theorem gm_pop {a : Addr} {o : Obj} {pl : Sem Bool} {Q : Value × List Value → Shared → Prop} (D : Mem G L nm vs σ h) (kn : Knows G σ a o) (hQ : Q (.builtin "list.pop", [.ref a]) (S s₀ h tk)) (hc : o.cls = .type "list" := by rfl) (hd : o.dict = none := by rfl) :
    wpAny (MM w) A (getMethod (.ref a) "pop" pl) Q E (S s₀ h tk) := gm D kn hc hd PySem.F.plainAttrs_list PySem.F.slot_list_pop PySem.F.type_list_pop hQ
theorem gm_get {kvs : List (Int × Value)} {a : Addr} {o : Obj} {pl : Sem Bool} {Q : Value × List Value → Shared → Prop} (D : Mem G L nm vs σ h) (kn : Knows G σ a o) (I : ID w a o kvs) (hQ : Q (.builtin "dict.get", [.ref a]) (S s₀ h tk)) :
    wpAny (MM w) A (getMethod (.ref a) "get" pl) Q E (S s₀ h tk) :=
  have hm := id_at (s₀ := s₀) (tk := tk) D kn I
  getMethod_builtin hm.typeIs PySem.F.plainAttrs_dict PySem.F.slot_dict_get PySem.F.type_dict_get hm.mapOf.noDict hQ

/-! list += list -/
theorem seq_list_iadd : isSeqSlot (some (.builtin "list.__iadd__")) = true := by decide +kernel
theorem l_inplace {l b : Addr} {xs ys : List Value} {n n2 : Nat} {Q : Value → Shared → Prop} (D : Mem G L nm vs σ h) (hm : (l, listOf xs.toArray n) ∈ σ) (kn : Knows G σ b (listOf ys.toArray n2)) (hz : xs.length + ys.length ≤ 2 ^ 20)
    (hQ : ∀ h' n', (∀ σ', Rep l (listOf xs.toArray n) (listOf (xs ++ ys).toArray n') σ σ' → Mem G L nm vs σ' h') → Q (.ref l) (S s₀ h' tk)) :
    wpAny (MM w) A (inplaceOp .Add (.ref l) (.ref b)) Q E (S s₀ h tk) := by
  have ha : (S s₀ h tk).TypeIs (.ref l) "list" := ⟨_, D.get hm, rfl⟩
  have hb : (S s₀ h tk).TypeIs (.ref b) "list" := ⟨_, D.knows kn, rfl⟩
  unfold inplaceOp
  refine wpAny_holding ?_
  have hfi : fillsInplaceSlot (.type "list") "add" (Operator.Add == .Add) = pure false := by
    unfold fillsInplaceSlot
    show (typeLookup (.type "list") (dunderI "add") >>= fun fi => pure (fi.isSome && !isSeqSlot fi)) = pure false
    rw [PySem.F.slot_list_iadd.lookup, pure_bind]
    rw [seq_list_iadd]; rfl
  have hsi : seqSlot? (.type "list") (dunderI "add") = pure (some (.builtin "list.__iadd__")) := PySem.seqSlot_of PySem.F.slot_list_iadd.lookup seq_list_iadd
  refine wpAny_bind (wpAny_typeOf ha (wpAny_bind (wpAny_of_eq hfi ?_)))
  show wpAny (MM w) A (if false = true then _ else _) Q E _
  rw [if_neg Bool.false_ne_true]
  refine wpAny_bind (wpAny_binaryOp1_none (nm := "add") ha hb noFill_list_add ?_)
  refine wpAny_bind (wpAny_of_eq hsi ?_)
  exact wpAny_bind (wpAny_rule (l_iadd D hm kn hz hQ))

/-! iterators of ranges and tuples -/
theorem fits_small {n : Nat} (hn : n ≤ 2 ^ 20) : Builtin.Range.small 0 n 1 = true := by
  have e : Builtin.Range.rangeSize 0 n 1 = n := by rw [rangeSize_one]; split <;> omega
  have f : ∀ k : Int, -(2 ^ 63) ≤ k → k < 2 ^ 63 → Builtin.Range.rangeFitsLong k = true := fun k a b => by simp only [Builtin.Range.rangeFitsLong, Bool.and_eq_true, decide_eq_true_eq]; exact ⟨a, b⟩
  unfold Builtin.Range.small
  rw [e, f 0 (by omega) (by omega), f n (by omega) (by omega), f 1 (by omega) (by omega)]
  rw [if_pos (by omega), f (n + (1 - 1)) (by omega) (by omega)]
  simp
/-- range(n) as an iterable: its walk -/
theorem w_range {n : Nat} {t : Tok} (hn : n ≤ 2 ^ 20) (hh : A.handled = none) (D : Mem G L nm vs σ h) {Q : Value → Shared → Prop}
    (hQ : ∀ I h' tk' St o0, Walks PG w A I [I] [I] n (fun i v => i < n ∧ ∃ t, v = .int (i : Nat) t) St → (∀ i h, St i h → ∃ o, h.get? I = some o) → Mem G L nm vs ((I, o0) :: σ) h' → St 0 h' → Q (.ref I) (S s₀ h' tk')) :
    wpAny (MM w) A (call (.type "range") [.int n t]) (fun x s₁ => wpAny (MM w) A (pyIter x) Q E s₁) E (S s₀ h tk) := by
  refine call_range_1 (s := S s₀ h tk) ?_
  have D1 := D.push { cls := .type "range", data := .fields #[.int 0 tk, .int n t, .int 1 (tk + 1)] }
  refine wpAny_pyIter_range (s := S s₀ _ (tk + 1 + 1)) (IsRange.new h 0 n 1 tk t (tk + 1)) (fits_small hn) ?_
  have e : Builtin.Range.rangeSize 0 n 1 = n := by rw [rangeSize_one]; split <;> omega
  rw [e]
  have W := (Walks.range (prog := PG) (w := w) hh (h.push { cls := .type "range", data := .fields #[.int 0 tk, .int n t, .int 1 (tk + 1)] }).objs.size 0 1 n).bound
  have W' : Walks PG w A (h.push { cls := .type "range", data := .fields #[.int 0 tk, .int n t, .int 1 (tk + 1)] }).objs.size [(h.push { cls := .type "range", data := .fields #[.int 0 tk, .int n t, .int 1 (tk + 1)] }).objs.size] [(h.push { cls := .type "range", data := .fields #[.int 0 tk, .int n t, .int 1 (tk + 1)] }).objs.size] n (fun i v => i < n ∧ ∃ t, v = .int (i : Nat) t)
      (fun i h' => IsRangeIter h' (h.push { cls := .type "range", data := .fields #[.int 0 tk, .int n t, .int 1 (tk + 1)] }).objs.size (0 + (i : Nat) * 1) ((n : Int) - (i : Nat)) 1) := by
    refine ⟨W.sub, W.frame, fun i s Q E hi st hQ => W.item i s Q E hi st fun v h' tk' hP => hQ v h' tk' ⟨hP.1, ?_⟩, W.done, W.self⟩
    obtain ⟨u, hu⟩ := hP.2
    exact ⟨u, by rw [hu]; simp⟩
  refine hQ _ _ _ _ _ W' (fun i h st => ⟨_, st⟩) (D1.tail.push { cls := .type "range_iterator", data := .fields #[rawInt 0, rawInt n, rawInt 1] }) ?_
  have q := Heap.get?_push_size (o := { cls := .type "range_iterator", data := .fields #[rawInt 0, rawInt n, rawInt 1] }) (h.push { cls := .type "range", data := .fields #[.int 0 tk, .int n t, .int 1 (tk + 1)] }) rfl
  refine q.trans ?_
  simp

/-- over range(n) -/
theorem r_iter_range {n : Nat} {t : Tok} {x : Str} {px : Pos} {body : List Stmt} {R : Result → Shared → Prop} (hn : n ≤ 2 ^ 20) (hh : A.handled = none)
    (D : Mem G L nm vs σ h) (J : Nat → Inv) (h0 : J 0 G vs σ)
    (turn : ∀ i G vs σ h tk t I oI, i < n → J i G vs σ → Mem G L nm vs ((I, oI) :: σ) h →
      wpAny (MM w) A (assign (.Name x px) env (.int (i : Nat) t)) (fun _ s₂ => wpAny (MM w) A (execs body env) (Turn s₀ L nm [(I, oI)] (J (i + 1)) R) F0 s₂) F0 (S s₀ h tk))
    (done : ∀ G vs σ h tk, J n G vs σ → Mem G L nm vs σ h → R (.ok .next) (S s₀ h tk)) :
    wpAny (MM w) A (call (.type "range") [.int n t]) (fun x' s₁ => wpAny (MM w) A (pyIter x') (fun it s₂ => codeAny (MM w) A (.forLoop (.Name x px) it body [] env) R s₂) F0 s₁) F0 (S s₀ h tk) := by
  refine w_range hn hh D (fun I h' tk' St o0 W hI D' hst => ?_)
  exact loop_walk W hI J (fun b hb hne => absurd (List.mem_singleton.mp hb) hne) D' hst h0
    (fun i G vs σ h tk v oI hi hP hJ D => by obtain ⟨_, t, rfl⟩ := hP; exact turn i G vs σ h tk t I oI hi hJ D) done

theorem r_iter_rangeP {n : Nat} {t : Tok} {x : Str} {px : Pos} {body : List Stmt} {R : Result → Shared → Prop} (hn : n ≤ 2 ^ 20) (hh : A.handled = none)
    (D : Mem G L nm vs σ h) (J : Nat → Inv) (h0 : J 0 G vs σ)
    (turn : ∀ (R' : Result → Shared → Prop) i G vs σ h tk t I oI, i < n → J i G vs σ → Mem G L nm vs ((I, oI) :: σ) h →
      wpAny (MM w) A (assign (.Name x px) env (.int (i : Nat) t)) (fun _ s₂ => wpAny (MM w) A (execs body env) (Turn s₀ L nm [(I, oI)] (J (i + 1)) R') F0 s₂) F0 (S s₀ h tk))
    (done : ∀ G vs σ h tk, J n G vs σ → Mem G L nm vs σ h → R (.ok .next) (S s₀ h tk)) :
    wpAny (MM w) A (call (.type "range") [.int n t]) (fun x' s₁ => wpAny (MM w) A (pyIter x') (fun it s₂ => codeAny (MM w) A (.forLoop (.Name x px) it body [] env) R s₂) F0 s₁) F0 (S s₀ h tk) :=
  r_iter_range hn hh D J h0 (turn R) done
/-! while -/
theorem r_while {test : Expr} {body : List Stmt} {pos : Pos} {Q : Flow → Shared → Prop} (J : Nat → Inv) (n₀ : Nat) (D : Mem G L nm vs σ h) (h0 : J n₀ G vs σ)
    (turn : ∀ n G vs σ h tk, J n G vs σ → Mem G L nm vs σ h → wpAny (MM w) A (isTrue test env (eval test env)) (fun b s₂ =>
      if b = true then wpAny (MM w) A (execs body env) (fun f s₃ => f = .next ∧ ∃ m G vs σ h tk, s₃ = S s₀ h tk ∧ m < n ∧ Mem G L nm vs σ h ∧ J m G vs σ) F0 s₂ else Q .next s₂) F0 (S s₀ h tk)) :
    wpAny (MM w) A (exec (.While test body [] pos) env) Q F0 (S s₀ h tk) := by
  refine wpAny_While (codeAny_whileLoop (fun n s' => ∃ G vs σ h tk, s' = S s₀ h tk ∧ Mem G L nm vs σ h ∧ J n G vs σ) ?_ n₀ ⟨G, vs, σ, h, tk, rfl, D, h0⟩)
  rintro n s' ⟨G, vs, σ, h, tk, rfl, D, hJ⟩
  refine wpAny_mono (turn n G vs σ h tk hJ D) (fun b s₂ h₂ => ?_) f0_noted
  cases b with
  | false =>
    simp only [Bool.false_eq_true, if_false] at h₂ ⊢
    exact wpAny_execs_nil h₂
  | true =>
    simp only [if_true] at h₂ ⊢
    refine wpAny_mono h₂ (fun f s₃ z => ?_) f0_noted
    obtain ⟨rfl, m, G, vs, σ, h, tk, rfl, hm, D, hJ⟩ := z
    exact ⟨m, hm, G, vs, σ, h, tk, rfl, D, hJ⟩

/-! tuples taken apart -/
theorem extBut_new {h₁ : Heap} (D : Mem G L nm vs σ h) (he : Heap.ExtBut h.objs.size h h₁) : Mem G L nm vs σ h₁ := D.grown fun b o e => he b o (Nat.ne_of_lt (Heap.lt_size e)) e
theorem r_untuple {t : Addr} {items : List Value} {n : Nat} {elts : List Expr} {k : Nat} {pos : Pos} {Q : Unit → Shared → Prop} (hh : A.handled = none) (D : Mem G L nm vs σ h) (kn : Knows G σ t (tupOf items.toArray n))
    (hn : (assignEach elts env).length = items.length) (hstar : (assignEach elts env).findIdx? (·.1) = none)
    (hQ : ∀ h', Mem G L nm vs σ h' → wpAny (MM w) A (assignInOrder ((assignEach elts env).map (·.2)) items) Q E (S s₀ h' tk)) :
    wpAny (MM w) A (assign (.Tuple elts k pos) env (.ref t)) Q E (S s₀ h tk) :=
  wpAny_assign_Tuple (s := S s₀ h tk) hh ⟨_, D.knows kn, rfl, n, rfl⟩ (by rw [hn, List.size_toArray]) hstar fun h' he => hQ h' (extBut_new D he)
theorem r_unpack {t : Addr} {items : List Value} {n : Nat} {Q : List Value → Shared → Prop} (hh : A.handled = none) (D : Mem G L nm vs σ h) (kn : Knows G σ t (tupOf items.toArray n))
    (hQ : ∀ h', Mem G L nm vs σ h' → Q items (S s₀ h' tk)) : wpAny (MM w) A (unpackItems (.ref t) items.length none) Q E (S s₀ h tk) := by
  have q := unpackItems_tuple (prog := PG) (w := w) (A := A) (E := E) (s := S s₀ h tk) (t := t) (items := items.toArray) (Q := Q) hh ⟨_, D.knows kn, rfl, n, rfl⟩ fun h' he => hQ h' (extBut_new D he)
  rwa [List.size_toArray] at q
end

section
variable {w : World} {A : Around} {G : Gh} {L : Addr} {nm : List Str} {vs vs' : List (Option Value)} {σ σ' : List (Addr × Obj)} {h : Heap} {s₀ : Shared} {tk : Nat} {env : Env} {E : Value → Shared → Prop}

theorem cells_addr {cm : Str → Option Value} {cs : List (Str × Addr)} {cells : List (Addr × Obj)} (Y : CellsAre cm cs cells) : cells.map (·.1) = cs.map (·.2) := by
  induction Y with
  | nil => rfl
  | cons _ _ ih => simp only [List.map_cons, ih]
/-- the cells of a frame, as objects of it -/
theorem enterC {f : Addr} {W : List (Addr × Obj)} {name qual : Str} {params : Arguments} {body : List Stmt} {scope : Scope} {dV kV doc pm cdv ct oc : Value} {an od : Option Addr} {osl : Array (Option Value)} {args : Args} {binds : List (Str × Value)} {R : Result → Shared → Prop}
    {n : Nat} (HA : Room A (n + 1)) (Γ : Gnd w G) (k : ∀ b o, G b = some o → h.get? b = some o) (ho : (KK w).lookup f = some ⟨oc, od, .func (fnX name qual params body scope [] dV kV doc pm an cdv ct), osl⟩) (hcode : codeIn (KK w) cdv qual = true)
    (hbind : BindsTo (S s₀ h tk) (fnX name qual params body scope [] dV kV doc pm an cdv ct) args binds)
    (hkind : ∀ n, ∀ x ∈ binds, scope.names.lookup x.1 = some .local ∨ (scope.names.lookup x.1 = some .cell ∧ ((cellsFrom n scope.names []).lookup x.1).isSome = true))
    (hcnd : ((cellsFrom 0 scope.names []).map (·.1)).Nodup)
    (hnd : nm.Nodup) (hat : ∀ L', Alls nm vs fun x v => bindL (envOfC qual scope L' f cdv).kindOf binds (fun _ => none) x = some v) (hW : ∀ p ∈ W, h.get? p.1 = some p.2 ∧ G p.1 = none) (hWn : (W.map (·.1)).Nodup)
    (H : ∀ A' G' L' h₁ tk₁ cells, Room A' n → Gnd w G' → (∀ b o, h.get? b = some o → b ∉ W.map (·.1) → G' b = some o) →
      CellsAre (bindC (envOfC qual scope L' f cdv).kindOf binds fun _ => none) (cellsFrom (L' + 1) scope.names []) cells → (∀ b o, G' b = some o → h.get? b = some o) → Mem G' L' nm vs (cells ++ W) h₁ →
      wpAny (MM w) A' (execs body (envOfC qual scope L' f cdv)) (fun fl s' => R (.ok (.ret (match fl with | .ret v => v | _ => .none))) s') F0 (S s₀ h₁ tk₁))
    (hco : scope.isCoroutine = false := by rfl) (hgen : scope.isGenerator = false := by rfl) (hk : scope.kind = .function := by rfl) :
    codeAny (MM w) A (.call (.ref f) args) R (S s₀ h tk) := by
  have X := Γ.kin k
  have gW : ∀ b ∈ W.map (·.1), G b = none := fun b hb => by obtain ⟨p, hp, rfl⟩ := List.mem_map.mp hb; exact (hW p hp).2
  refine codeAny_call_function (s := S s₀ h tk) HA.lim (X _ _ ho) rfl hco hgen rfl (codeRec_of X hcode) (hbind _ _ _ _ ?_)
  refine wpAny_newFunctionEnv_cells hk (hkind _) fun env' he s' x => ?_
  subst he
  refine ⟨(Γ.nolimit k).keeps x.toInCall.keep, codeAny_func ?_⟩
  obtain ⟨h₁, tk₁, rfl, _⟩ := x.done
  have hk₁ := x.toInCall.keep
  obtain ⟨cells, NC, Y⟩ := Cl.news (h₀ := h) (Nat.le_refl _) fun n c hm => ⟨x.cell n c (lookup_of_mem_nodup (cellsFrom_names scope.names 0 (h.objs.size + 1) [] [] rfl ▸ hcnd) hm), x.above n c hm⟩
  have cnd : (cells.map (·.1)).Nodup := by
    have q := cells_addr Y
    rw [q]
    have a := x.apart
    exact List.pairwise_map.mpr a
  refine wpAny_mono (H _ (hide (W.map (·.1)) h) h.objs.size h₁ tk₁ cells (HA.deeper _) (Γ.hide k gW) (fun b o e n => hide_some e n) Y (fun b o e => hide_of e) ?_) (fun _ _ q => q) (fun _ _ q => q.elim)
  refine ⟨⟨_, x.toInCall.ns, fun _ _ a => (hat _).at_ a⟩, fun b o e => hk₁ b o (hide_of e), fun p hp => ?_, fun p hp => ?_, ?_, ?_, hnd⟩
  · rcases List.mem_append.mp hp with hp | hp
    · exact (NC p hp).1
    · exact hk₁ _ _ (hW p hp).1
  · rcases List.mem_append.mp hp with hp | hp
    · refine ⟨(NC p hp).2.1, ?_⟩
      cases q : hide (W.map (·.1)) h p.1 with
      | none => rfl
      | some o => have := hide_of q; rw [(NC p hp).2.2] at this; cases this
    · exact ⟨Nat.ne_of_lt (Heap.lt_size (hW p hp).1), hide_none (List.mem_map_of_mem hp)⟩
  · rw [List.map_append]
    refine List.nodup_append.mpr ⟨cnd, hWn, fun a ha b hb e => ?_⟩
    obtain ⟨p, hp, rfl⟩ := List.mem_map.mp ha
    obtain ⟨q, hq, rfl⟩ := List.mem_map.mp hb
    have e : p.1 = q.1 := e
    have := (NC p hp).2.2
    rw [e, (hW q hq).1] at this; cases this
  · cases q : hide (W.map (·.1)) h h.objs.size with
    | none => rfl
    | some o => exact absurd (Heap.lt_size (hide_of q)) (Nat.lt_irrefl _)
end
/-! B9 -/
section
variable {w : World} {A : Around} {G : Gh} {L : Addr} {nm : List Str} {vs vs' : List (Option Value)} {σ σ' : List (Addr × Obj)} {h h' : Heap} {s₀ : Shared} {tk : Nat} {env : Env} {E : Value → Shared → Prop}

def Off (C : Addr) (G : Gh) (L : Addr) (σ : List (Addr × Obj)) : Prop := C ≠ L ∧ G C = none ∧ ∀ p ∈ σ, p.1 ≠ C
theorem Mem.offC {C : Addr} (D : Mem G L nm vs σ h) (O : Off C G L σ) (hs : Heap.SameBut C h h') : Mem G L nm vs σ h' :=
  D.change (fun _ e => (hs.2 L (Ne.symm O.1)).trans e) (fun b o g e => (hs.2 b (by rintro rfl; rw [O.2.1] at g; cases g)).trans e) (fun p hp => (hs.2 _ (O.2.2 p hp)).trans (D.own p hp)) D.off D.nd
theorem Off.of_new (D : Mem G L nm vs σ h) {C : Addr} (e : h.get? C = none) : Off C G L σ := by
  refine ⟨?_, ?_, ?_⟩
  · rintro rfl; obtain ⟨m, ⟨o, _, _, q, _⟩, _⟩ := D.ns; rw [e] at q; cases q
  · cases q : G C with
    | none => rfl
    | some o => have := D.keep _ _ q; rw [e] at this; cases this
  · rintro p hp rfl; have := D.own p hp; rw [e] at this; cases this

def withL (G : Gh) (L : Addr) (o : Obj) : Gh := fun a => if a = L then some o else G a
theorem withL_L {o : Obj} : withL G L o L = some o := if_pos rfl
theorem withL_of {b : Addr} {o oL : Obj} (n : G L = none) (e : G b = some o) : withL G L oL b = some o := by
  unfold withL
  rw [if_neg]
  · exact e
  · rintro rfl; rw [n] at e; cases e

/-- a list comprehension whose turns see what they close over -/
theorem r_comp {I : Addr} {fp : List Addr} {n : Nat} {P : Nat → Value → Prop} {St : Nat → Heap → Prop} {elt iter : Expr} {x : Str} {px : Pos} {ifs : List Expr} {scope : Scope} {cl : List (Str × Addr)} {pos : Pos} {RR : Value → Addr → Result → Shared → Prop}
    (W : Walks PG w A I fp [I] n P St) (hI : ∀ i h, St i h → ∃ o, h.get? I = some o) (J : Nat → List Value → List (Addr × Obj) → Prop) (hsrc : ∀ b ∈ fp, b ≠ I → ∃ o, ∀ i ys σ, J i ys σ → Knows G σ b o) {o0 : Obj}
    (D : Mem G L nm vs ((I, o0) :: σ) h) (hst : St 0 h) (h0 : J 0 [] σ) (hn : n ≤ 2 ^ 20) (hlen : ∀ i ys σ, J i ys σ → ys.length ≤ i)
    (turn : ∀ i Gc C nD ys σ h tk v oI acc, i < n → P i v → J i ys σ → (∀ b o, G b = some o → Gc b = some o) → Mem Gc C [x] [some v] ((acc, listOf ys.toArray nD) :: (I, oI) :: σ) h →
      wpAny (MM w) A (forIn ifs true fun c r => if r = true then do let ok ← isTrue c (compEnvC scope cl C env) (eval c (compEnvC scope cl C env)); pure (ForInStep.yield ok) else pure (ForInStep.yield r))
        (fun ok s₃ => if ok = true then wpAny (MM w) A (eval elt (compEnvC scope cl C env)) (fun y s₄ => ∃ h tk σ', s₄ = S s₀ h tk ∧ Mem Gc C [x] [some v] ((acc, listOf ys.toArray nD) :: (I, oI) :: σ') h ∧ J (i + 1) (ys ++ [y]) σ') F0 s₃
          else ∃ h tk σ', s₃ = S s₀ h tk ∧ Mem Gc C [x] [some v] ((acc, listOf ys.toArray nD) :: (I, oI) :: σ') h ∧ J (i + 1) ys σ') F0 (S s₀ h tk))
    (done : ∀ acc nD ys σ h tk C m, J n ys σ → Mem G L nm vs ((acc, listOf ys.toArray nD) :: σ) h → h.Ns C m → Off C G L ((acc, listOf ys.toArray nD) :: σ) → RR (.ref acc) C (.ok .next) (S s₀ h tk))
    (hcell : ∀ y ∈ scope.names, y.2 ≠ .cell) (hkind : scope.kind = .function) (hx : scope.names.lookup x = some .local) (ht : ∀ v, letOwnedTupleGo (.Name x px) (.ref I) v = pure () := by intro _; rfl) :
    wpAny (MM w) A (newList []) (fun acc s₃ => wpAny (MM w) A (newFunctionEnv scope env.globals cl [] env.qual none .none (some env)) (fun cenv s₄ =>
      codeAny (MM w) A (.compStart (.ListComp elt [⟨.Name x px, iter, ifs, 0⟩] scope pos) 0 (.ref I) acc { cenv with scope := relabel scope env }) (RR acc cenv.locals) s₄) F0 s₃) F0 (S s₀ h tk) := by
  refine nl D (fun acc h₁ D₁ => ?_)
  refine wpAny_newFunctionEnv (s := S s₀ h₁ tk) hcell (by intro y hy; simp at hy) (fun h₂ hns₂ hsb₂ => ?_) hkind
  change h₂.Ns h₁.objs.size _ at hns₂
  change Heap.SameBut h₁.objs.size _ h₂ at hsb₂
  have D₂ : Mem G L nm vs ((acc, listOf ([] : List Value).toArray 0) :: (I, o0) :: σ) h₂ := D₁.grown fun b o e => hsb₂.extBut b o (Nat.ne_of_lt (Heap.lt_size e)) (Heap.get?_push_of_some _ e)
  have nC : h₁.get? h₁.objs.size = none := size_none h₁
  have OC := Off.of_new D₁ nC
  show codeAny _ _ (.compStart _ 0 _ _ (compEnvC scope cl h₁.objs.size env)) (RR (.ref acc) h₁.objs.size) (S s₀ h₂ tk)
  have hst₂ : St 0 h₂ := W.frame 0 _ _ hst fun b hb o e => by
    by_cases hbI : b = I
    · subst hbI
      have q := D.get (.head _)
      rw [q] at e; cases e
      exact D₂.get (.tail _ (.head _))
    · obtain ⟨ob, ko⟩ := hsrc b hb hbI
      have e1 := D.knows ((ko _ _ _ h0).imp id (.tail _))
      have e2 := D₂.knows ((ko _ _ _ h0).imp id fun z => .tail _ (.tail _ z))
      rw [e1] at e; cases e; exact e2
  generalize h₁.objs.size = C at hns₂ hsb₂ OC nC ⊢
  obtain ⟨mL, ⟨oL, esL, epL, eL, rL⟩, aL⟩ := D₂.ns
  have GL : G L = none := D.loc
  have mem0 : Mem (withL G L oL) C [x] [none] ((acc, listOf ([] : List Value).toArray 0) :: (I, o0) :: σ) h₂ := by
    refine ⟨⟨_, hns₂, fun y u a => ?_⟩, fun b o e => ?_, D₂.own, fun p hp => ⟨OC.2.2 p hp, ?_⟩, D₂.nd, ?_, by simp⟩
    · cases a with
      | tail a => cases a
    · unfold withL at e
      split at e
      · rename_i q; cases e; rw [q]; exact eL
      · exact D₂.keep b o e
    · unfold withL; rw [if_neg (D₂.off p hp).1]; exact (D₂.off p hp).2
    · unfold withL; rw [if_neg OC.1]; exact OC.2.1
  have loop : ∀ s₃ : Shared, s₃ = S s₀ h₂ tk → codeAny (MM w) A (.compLoop (.ListComp elt [⟨.Name x px, iter, ifs, 0⟩] scope pos) 0 (.ref I) (.ref acc) (compEnvC scope cl C env)) (RR (.ref acc) C) s₃ := by
    rintro s₃ rfl
    refine codeAny_compLoop_tests (fun k s' => ∃ i ys nD σ h tk oI u, s' = S s₀ h tk ∧ St i h ∧ Mem (withL G L oL) C [x] [u] ((acc, listOf ys.toArray nD) :: (I, oI) :: σ) h ∧ J i ys σ ∧ i ≤ n ∧ k = n + 1 - i) ?_ (n + 1)
      ⟨0, [], 0, σ, h₂, tk, o0, none, rfl, hst₂, mem0, h0, Nat.zero_le _, rfl⟩ ht
    rintro k s' ⟨i, ys, nD, σ, h, tk, oI, u, rfl, hst, D, hJ, hi, rfl⟩
    have kpOf : ∀ h₁ : Heap, (∀ b o, b ∉ [I] → h.get? b = some o → h₁.get? b = some o) → Keep [I] h h₁ := fun h₁ k b o e n => k b o n e
    by_cases hlt : i < n
    · refine W.item i (S s₀ h tk) _ _ hlt hst fun v h₁ tk₁ hP hst₁ hk₁ => ?_
      obtain ⟨o', ho'⟩ := hI _ _ hst₁
      have D₁ := D.after1 (kpOf _ hk₁) (.tail .head) ho'
      refine wpAny_assign_Name (sto (env := compEnvC scope cl C env) D₁ .head (fun h₂ tk₂ D₂ => ?_) hkind (lookup_relabel_local hx))
      have back : ∀ σ' h' ys nD, Mem (withL G L oL) C [x] [some v] ((acc, listOf ys nD) :: (I, o') :: σ') h' → (∀ b o, b ∈ fp → b ≠ I → h₁.get? b = some o → h'.get? b = some o) → St (i + 1) h' := fun σ' h' ys nD D' hsame =>
        W.frame _ _ _ hst₁ fun b hb o e => by
          by_cases hbI : b = I
          · subst hbI
            rw [ho'] at e; cases e
            exact D'.get (.tail _ (.head _))
          · exact hsame b o hb hbI e
      have liftK : ∀ {σ' : List (Addr × Obj)} {b : Addr} {o oa : Obj}, Knows G σ' b o → Knows (withL G L oL) ((acc, oa) :: (I, o') :: σ') b o := fun z => z.imp (withL_of GL) fun q => .tail _ (.tail _ q)
      refine wpAny_mono (turn i _ C nD ys σ h₂ tk₂ v o' acc hlt hP hJ (fun b o e => withL_of GL e) D₂) (fun ok s₃ z => ?_) f0_noted
      have same2 : ∀ (σ' : List (Addr × Obj)) (h' : Heap) (ys' : List Value) (nD' : Nat), J (i + 1) ys' σ' → Mem (withL G L oL) C [x] [some v] ((acc, listOf ys'.toArray nD') :: (I, o') :: σ') h' → St (i + 1) h' := fun σ' h' ys' nD' hJ' D' =>
        back σ' h' _ _ D' fun b o hb hbI e => by
          obtain ⟨ob, ko⟩ := hsrc b hb hbI
          have e1 := D₁.knows (liftK (ko _ _ _ hJ))
          have e2 := D'.knows (liftK (ko _ _ _ hJ'))
          rw [e1] at e; cases e; exact e2
      cases ok with
      | false =>
        obtain ⟨h', tk', σ', rfl, D', hJ'⟩ := z
        exact ⟨n + 1 - (i + 1), by omega, i + 1, ys, nD, σ', h', tk', o', _, rfl, same2 _ _ _ _ hJ' D', D', hJ', hlt, rfl⟩
      | true =>
        refine wpAny_mono z (fun y s₄ z => ?_) f0_noted
        obtain ⟨h', tk', σ', rfl, D', hJ'⟩ := z
        have hl := hlen _ _ _ hJ'
        rw [List.length_append, List.length_singleton] at hl
        refine l_append (v := y) D' (.head _) (by omega) fun h'' n'' H => ?_
        have D'' := H _ .head
        exact ⟨n + 1 - (i + 1), by omega, i + 1, ys ++ [y], n'', σ', h'', tk', o', _, rfl, same2 _ _ _ _ hJ' D'', D'', hJ', hlt, rfl⟩
    · have hin : i = n := by omega
      subst hin
      refine W.done (S s₀ h tk) _ _ hst fun h₁ tk₁ hk₁ => ?_
      have DK : ∀ p ∈ (acc, listOf ys.toArray nD) :: σ, h₁.get? p.1 = some p.2 := fun p hp => by
        have hp' : p ∈ (acc, listOf ys.toArray nD) :: (I, oI) :: σ := by
          rcases List.mem_cons.mp hp with rfl | hp
          · exact .head _
          · exact .tail _ (.tail _ hp)
        refine hk₁ _ _ (fun q => ?_) (D.own p hp')
        have q := List.mem_singleton.mp q
        have nd := D.nd
        simp only [List.map_cons, List.nodup_cons] at nd
        rcases List.mem_cons.mp hp with rfl | hp
        · exact nd.1 (q ▸ .head _)
        · exact nd.2.1 (q ▸ List.mem_map_of_mem hp)
      have offp : ∀ p ∈ (acc, listOf ys.toArray nD) :: (I, oI) :: σ, p.1 ≠ L ∧ G p.1 = none := fun p hp => by
        have q := (D.off p hp).2
        by_cases e : p.1 = L
        · rw [e, withL_L] at q; cases q
        · refine ⟨e, ?_⟩
          unfold withL at q; rw [if_neg e] at q; exact q
      have subp : ∀ p ∈ (acc, listOf ys.toArray nD) :: σ, p ∈ (acc, listOf ys.toArray nD) :: (I, oI) :: σ := fun p hp => by
        rcases List.mem_cons.mp hp with rfl | hp
        · exact .head _
        · exact .tail _ (.tail _ hp)
      have keepp : ∀ b o, withL G L oL b = some o → h₁.get? b = some o := fun b o e => hk₁ b o (fun q => by
        have q := List.mem_singleton.mp q
        have z := (D.off (I, oI) (.tail _ (.head _))).2
        rw [← q, e] at z; cases z) (D.keep b o e)
      have Dout : Mem G L nm vs ((acc, listOf ys.toArray nD) :: σ) h₁ := by
        refine ⟨⟨mL, ⟨oL, esL, epL, keepp L oL withL_L, rL⟩, aL⟩, fun b o e => keepp b o (withL_of GL e), DK, fun p hp => offp p (subp p hp), ?_, GL, D₂.nmnd⟩
        have nd := D.nd
        simp only [List.map_cons, List.nodup_cons, List.mem_cons, not_or] at nd ⊢
        exact ⟨nd.1.2, nd.2.2⟩
      obtain ⟨mC, nsC, _⟩ := D.ns
      have nsC' : h₁.Ns C mC := nsC.at' fun o e => hk₁ _ _ (fun q => (D.off (I, oI) (.tail _ (.head _))).1 (List.mem_singleton.mp q).symm) e
      exact done acc nD ys σ h₁ tk₁ C mC hJ Dout nsC' ⟨OC.1, OC.2.1, fun p hp => (D.off p (subp p hp)).1⟩
  exact codeAny_compStart_list (loop _ rfl) (W.self 0 _ _ _ hst₂ (loop _ rfl))

/-- the comprehension as a value -/
theorem r_listcomp {elt iter : Expr} {x : Str} {px : Pos} {ifs : List Expr} {scope : Scope} {cl : List (Str × Addr)} {pos : Pos} {Q : Value → Shared → Prop} {s : Shared}
    (hclos : closureFor scope env = pure cl) (hkind : scope.kind = .function) (hnames : ∀ x ∈ scope.names, x.2 = .local → scope.names.lookup x.1 = some .local)
    (hQ : wpAny (MM w) A (eval iter env) (fun xv s₁ => wpAny (MM w) A (pyIter xv) (fun it s₂ => wpAny (MM w) A (newList []) (fun acc s₃ => wpAny (MM w) A (newFunctionEnv scope env.globals cl [] env.qual none .none (some env)) (fun cenv s₄ =>
      codeAny (MM w) A (.compStart (.ListComp elt [⟨.Name x px, iter, ifs, 0⟩] scope pos) 0 it acc { cenv with scope := relabel scope env }) (compPost (MM w) A F0 none Q acc cenv.locals) s₄) F0 s₃) F0 s₂) F0 s₁) F0 s)
    (hs : ∀ x, foldedSetIterable iter env x = pure x := by intro _; rfl) :
    wpAny (MM w) A (eval (.ListComp elt [⟨.Name x px, iter, ifs, 0⟩] scope pos) env) Q F0 s := by
  rw [eval_ListComp]
  exact wpAny_comprehension_free (use := none) rfl hs hclos hkind hnames hQ
theorem comp_none {acc C : Addr} {Q : Value → Shared → Prop} {m : Str → Option Value} (D : Mem G L nm vs σ h) (n : h.Ns C m) (O : Off C G L σ) (hQ : ∀ h', Mem G L nm vs σ h' → Q (.ref acc) (S s₀ h' tk)) :
    compPost (MM w) A F0 none Q (.ref acc) C (.ok .next) (S s₀ h tk) := ⟨m, n, fun h' hs => hQ h' (D.offC O hs)⟩
/-- the comprehension to a name -/
theorem r_listcomp_to {elt iter : Expr} {x y : Str} {px py : Pos} {ifs : List Expr} {scope : Scope} {cl : List (Str × Addr)} {pos spos : Pos} {Q : Flow → Shared → Prop} {s : Shared}
    (hclos : closureFor scope env = pure cl) (hkind : scope.kind = .function) (hnames : ∀ x ∈ scope.names, x.2 = .local → scope.names.lookup x.1 = some .local)
    (hsw : swapsWith (.ListComp elt [⟨.Name x px, iter, ifs, 0⟩] scope pos) (some (.Name y py)) spos.line env = pure true)
    (hQ : wpAny (MM w) A (eval iter env) (fun xv s₁ => wpAny (MM w) A (pyIter xv) (fun it s₂ => wpAny (MM w) A (newList []) (fun acc s₃ => wpAny (MM w) A (newFunctionEnv scope env.globals cl [] env.qual none .none (some env)) (fun cenv s₄ =>
      codeAny (MM w) A (.compStart (.ListComp elt [⟨.Name x px, iter, ifs, 0⟩] scope pos) 0 it acc { cenv with scope := relabel scope env }) (compPost (MM w) A F0 (some (assign (.Name y py) env)) (fun _ s' => Q .next s') acc cenv.locals) s₄) F0 s₃) F0 s₂) F0 s₁) F0 s)
    (hs : ∀ x, foldedSetIterable iter env x = pure x := by intro _; rfl) :
    wpAny (MM w) A (exec (.Assign [.Name y py] (.ListComp elt [⟨.Name x px, iter, ifs, 0⟩] scope pos) spos) env) Q F0 s := by
  rw [exec_Assign_Name_used _ _ _ _ hsw]
  refine wpAny_bind (wpAny_standAt (wpAny_bind ?_))
  show wpAny _ A (do let _ ← comprehension (.ListComp elt [⟨.Name x px, iter, ifs, 0⟩] scope pos) scope env _ (newList []) false (eval iter env) (some (assign (.Name y py) env))) _ _ s
  exact wpAny_bind (wpAny_mono (wpAny_comprehension_free (use := some (assign (.Name y py) env)) (Q := fun _ s' => Q .next s') rfl hs hclos hkind hnames hQ) (fun _ s' hq => wpAny_pure (wpAny_pure hq)) fun _ _ e => e)
theorem comp_name {acc C : Addr} {y : Str} {py : Pos} {Q : Flow → Shared → Prop} {m : Str → Option Value} (D : Mem G env.locals nm vs σ h) (n : h.Ns C m) (O : Off C G env.locals σ) (p : Put nm vs y (.ref acc) vs')
    (hQ : ∀ h' tk', Mem G env.locals nm vs' σ h' → Q .next (S s₀ h' tk')) (hk : env.scope.kind = .function := by rfl) (hx : env.kindOf y = some .local := by rfl) :
    compPost (MM w) A F0 (some (assign (.Name y py) env)) (fun _ s' => Q .next s') (.ref acc) C (.ok .next) (S s₀ h tk) := by
  show wpAny _ A (assign (.Name y py) env (.ref acc)) _ _ _
  obtain ⟨mL, nL, aL⟩ := D.ns
  refine wpAny_assign_Name (wpAny_storeName_local (s := S s₀ h tk) hx nL (fun h₂ hn₂ hs₂ => ?_) (by rw [hk]; rfl))
  have D₂ := D.store p ⟨nL, aL⟩ hn₂ hs₂
  exact ⟨m, n.sameBut hs₂ O.1, fun h₃ hs₃ => hQ h₃ _ (D₂.offC O hs₃)⟩
end
/-! Drv -/
theorem bt_len : bootBuiltins "len" = some (.builtin "len") := by boot_fast
theorem bt_range : bootBuiltins "range" = some (.type "range") := by boot_fast
theorem bt_str : bootBuiltins "str" = some (.type "str") := by boot_fast
theorem bt_list : bootBuiltins "list" = some (.type "list") := by boot_fast
theorem bt_tuple : bootBuiltins "tuple" = some (.type "tuple") := by boot_fast
theorem bt_sorted : bootBuiltins "sorted" = some (.builtin "sorted") := by boot_fast

theorem up {P : List (Addr × Obj) → Prop} {Q : Prop} {a : Addr} {o o' : Obj} {σ σ' : List (Addr × Obj)} (H : ∀ σ', Rep a o o' σ σ' → P σ') (r : Rep a o o' σ σ') (k : P σ' → Q) : Q := k (H _ r)
section
variable {w : World} {A : Around} {G : Gh} {L : Addr} {nm : List Str} {vs vs' : List (Option Value)} {σ σ' : List (Addr × Obj)} {h : Heap} {s₀ : Shared} {tk : Nat} {env : Env} {E : Value → Shared → Prop}
theorem sl_const {i : Int} {k : Nat} {pos p : Pos} {Q : Value → Shared → Prop} (D : Mem G L nm vs σ h)
    (hQ : ∀ a t h' tk', Mem G L nm vs ((a, { cls := .type "slice", data := .fields #[.none, .int i t, .none] }) :: σ) h' → Q (.ref a) (S s₀ h' tk')) :
    wpAny (MM w) A (eval (.Slice none (some (.Constant (.int i) k pos)) none p) env) Q E (S s₀ h tk) := by
  refine wpAny_Slice (evalPart_none_step (evalPart_some_step (cInt fun t tk' => evalPart_none_step ?_)))
  exact hQ _ _ _ _ (D.push _)
omit w A E env s₀ tk in
theorem Mem.newer {W : List Addr} {h₀ : Heap} {a : Addr} {o : Obj} (D : Mem G L nm vs σ h) (kg : ∀ b o, h₀.get? b = some o → b ∉ W → G b = some o) (m : (a, o) ∈ σ) (hn : a ∉ W) : h₀.get? a = none := by
  cases q : h₀.get? a with
  | none => rfl
  | some o' => have := (D.off _ m).2; rw [kg _ _ q hn] at this; cases this
theorem call1 {f a : Value} {vs : List Value} {Q : Value → Shared → Prop} {s : Shared} (h : wpAny (MM w) A (call f (a :: vs)) Q E s) : wpAny (MM w) A (call f ([a] ++ vs)) Q E s := h
theorem call0 {f : Value} {vs : List Value} {Q : Value → Shared → Prop} {s : Shared} (h : wpAny (MM w) A (call f vs) Q E s) : wpAny (MM w) A (call f ([] ++ vs)) Q E s := h
end
/-! the driver -/
local macro_rules | `(tactic| walk_at "m.shape") => `(tactic| with_reducible first
  | refine wpAny_execs_nil ?_
  | refine wpAny_execs_cons ?_
  | refine wpAny_If ?_
  | refine wpAny_Return_some ?_
  | refine wpAny_Break ?_
  | refine IfExp_ ?_
  | refine wpAny_AugAssign_Name ?_
  | refine BoolOp_one ?_
  | refine BoolOp_and ?_
  | refine BoolOp_or ?_
  | refine isTrue_and ?_
  | refine isTrue_and_nil ?_
  | refine isTrue_or ?_
  | refine isTrue_or_nil ?_
  | refine isTrue_not ?_
  | refine Subscript_ ?_
  | refine List_ ?_
  | refine Tuple_ ?_
  | refine wpAny_BinOp ?_
  | refine UnaryOp_ ?_
  | refine not_of ?_
  | refine args_nil ?_
  | refine wpAny_truthy_bool ?_)
local macro_rules | `(tactic| walk_at "m.call") => `(tactic| first
  | ((with_reducible refine' wpAny_Expr ?h ?i ?s); (case i => exact rfl); (case s => exact rfl))
  | ((with_reducible refine' wpAny_Assign_Name ?h ?s); (case s => exact rfl))
  | ((with_reducible refine' plainObj_wpAny_Assign_Attribute ?h ?s); (case s => exact rfl))
  | ((with_reducible refine' wpAny_Assign_Subscript ?h ?s); (case s => exact rfl))
  | ((with_reducible refine' wpAny_isTrue_Compare1 ?h ?s); (case s => with_unfolding_all exact rfl))
  | ((with_reducible refine' wpAny_Compare1 ?h ?s); (case s => with_unfolding_all exact rfl))
  | ((with_reducible refine' MethodCall_ ?h ?he); (case he => exact rfl))
  | ((with_reducible refine' Call_ ?h ?he); (case he => exact rfl))
  | ((with_reducible refine' args_cons ?h ?he); (case he => exact rfl))
  | ((with_reducible refine' Attribute_any_ ?h ?he); (case he => with_unfolding_all exact rfl)))
local macro_rules | `(tactic| walk_at "m.at") => `(tactic| first | with_reducible exact At.head | (with_reducible apply At.tail; walk_at "m.at"))
local macro_rules | `(tactic| walk_at "m.put") => `(tactic| first | with_reducible exact Put.head | (with_reducible apply Put.tail; walk_at "m.put"))
local macro_rules | `(tactic| walk_at "m.ato") => `(tactic| first | with_reducible exact AtO.head | (with_reducible apply AtO.tail; walk_at "m.ato"))
local macro_rules | `(tactic| walk_at "m.puto") => `(tactic| first | with_reducible exact PutO.head | (with_reducible apply PutO.tail; walk_at "m.puto"))
local macro_rules | `(tactic| walk_at "m.mem") => `(tactic| first | exact List.Mem.head _ | (apply List.Mem.tail; walk_at "m.mem"))
local macro_rules | `(tactic| walk_at "m.rep") => `(tactic| first | with_reducible exact Rep.head | (with_reducible apply Rep.tail; walk_at "m.rep"))
local macro_rules | `(tactic| walk_at "m.kn") => `(tactic| first | (refine Or.inr ?_; walk_at "m.mem") | (refine Or.inl ?_; assumption))
local macro_rules | `(tactic| walk_at "m.D") => `(tactic| with_reducible assumption)
local macro_rules | `(tactic| walk_at "m.name") => `(tactic| first
  | (refine' ld ?D ?a ?_ ?k ?x ?d; (case D => walk_at "m.D"); (case k => exact rfl); (case x => exact rfl); (case d => exact rfl); (case a => walk_at "m.at"))
  | (refine' ldg ?G ?D ?e ?_ ?g ?k ?x ?d; (case G => assumption); (case D => walk_at "m.D"); (case g => exact rfl); (case k => exact rfl); (case x => exact rfl); (case d => exact rfl); (case e => exact rfl))
  | (refine' ldb ?G ?D ?e ?v ?_ ?n ?g ?b ?k ?x ?d; (case v => first | exact bt_len | exact bt_range | exact bt_str | exact bt_list | exact bt_tuple | exact bt_sorted); (case G => assumption); (case D => walk_at "m.D"); (case g => exact rfl); (case b => exact rfl); (case k => exact rfl); (case x => exact rfl); (case d => exact rfl); (case n => decide +kernel); (case e => exact rfl))
  | (refine' ldc ?D ?c ?kn ?v ?_ ?k ?x ?d; (case D => walk_at "m.D"); (case k => exact rfl); (case x => exact rfl); (case d => exact rfl); (case c => exact rfl); (case kn => walk_at "m.kn"); (case v => first | exact rfl | assumption)))
local macro_rules | `(tactic| walk_at "m.const") => `(tactic| with_reducible first
  | (refine' cInt ?_; intro _ _)
  | (refine' cStr ?_; intro _ _)
  | refine cBool ?_
  | refine cNone ?_)
local macro_rules | `(tactic| walk_at "m.new") => `(tactic| first
  | ((with_reducible show wpAny _ _ (newList _) _ _ _); refine' nl ?D ?_ ?z; (case D => walk_at "m.D"); (case z => decide); intro _ _ _)
  | ((with_reducible show wpAny _ _ (newTuple _) _ _ _); refine' nt ?D ?_ ?z; (case D => walk_at "m.D"); (case z => decide); intro _ _ _))
local macro_rules | `(tactic| walk_at "m.sto") => `(tactic| (refine' sto ?D ?p ?_ ?k ?x; (case D => walk_at "m.D"); (case k => exact rfl); (case x => exact rfl); (case p => walk_at "m.put"); intro _ _ _))
local macro_rules | `(tactic| walk_at "m.int") => `(tactic| with_reducible first
  | (refine i_add ?_; intro _ _)
  | (refine i_iadd ?_; intro _ _)
  | (refine i_sub ?_; intro _ _)
  | refine i_ge ?_
  | refine i_gt ?_
  | refine i_eq ?_)
local macro_rules | `(tactic| walk_at "m.cw") => `(tactic| first
  | (with_reducible refine cw_b ?_ rfl rfl)
  | (with_reducible refine cw_t ?_ rfl rfl)
  | (with_reducible refine cw_b0 ?_))
local macro_rules | `(tactic| walk_at "m.up") => `(tactic| (refine' up (by assumption) ?r ?go; (case r => walk_at "m.rep"); intro _))
local macro_rules | `(tactic| walk_at "m.gm") => `(tactic| first
  | ((with_reducible refine' gm_append ?D ?k ?_ ?c ?d); (case D => walk_at "m.D"); (case k => walk_at "m.kn"); (case c => exact rfl); (case d => exact rfl))
  | ((with_reducible refine' gm_extend ?D ?k ?_ ?c ?d); (case D => walk_at "m.D"); (case k => walk_at "m.kn"); (case c => exact rfl); (case d => exact rfl))
  | ((with_reducible refine' gm_pop ?D ?k ?_ ?c ?d); (case D => walk_at "m.D"); (case k => walk_at "m.kn"); (case c => exact rfl); (case d => exact rfl))
  | ((with_reducible refine' gm_get ?D ?k ?I ?_); (case D => walk_at "m.D"); (case k => walk_at "m.kn"); (case I => assumption)))
local macro_rules | `(tactic| walk_at "m.len") => `(tactic| first | assumption | (simp only [List.length_append, List.length_cons, List.length_nil] at *; omega))
local macro_rules | `(tactic| walk_at "m.step") => `(tactic| first
  | walk_at "m.new"
  | walk_at "m.shape"
  | walk_at "m.call"
  | ((with_reducible show wpAny _ _ (eval (Expr.Name _ _) _) _ _ _); walk_at "m.name")
  | walk_at "m.const"
  | with_reducible refine call1 ?_
  | with_reducible refine call0 ?_
  | ((with_reducible refine' sl_const ?D ?_); (case D => walk_at "m.D"); intro _ _ _ _ _)
  | ((with_reducible refine' r_for ?h ?hs); (case hs => intro _; exact rfl))
  | ((with_reducible show wpAny _ _ (storeName _ _ _) _ _ _); walk_at "m.sto")
  | walk_at "m.int"
  | ((with_reducible refine' l_append ?D ?k ?z ?_); (case D => walk_at "m.D"); (case k => walk_at "m.mem"); (case z => walk_at "m.len"); intro _ _ _; walk_at "m.up")
  | ((with_reducible refine' l_len ?D ?k ?z ?_); (case D => walk_at "m.D"); (case k => walk_at "m.kn"); (case z => walk_at "m.len"); intro _ _)
  | ((with_reducible show wpAny _ _ (callWith _ _ _ _ _) _ _ _); walk_at "m.cw")
  | ((with_reducible show wpAny _ _ (getMethod _ _ _) _ _ _); walk_at "m.gm"))
/-! C0 -/
/-! from the ledger's rules to Mem -/
def h00 : Heap := { objs := #[] }
theorem h00_none (b : Addr) : h00.get? b = none := by
  cases q : h00.get? b with
  | none => rfl
  | some o => exact absurd (Heap.lt_size q) (Nat.not_lt_zero _)

section
variable {w : World} {A : Around} {G : Gh} {L : Addr} {nm : List Str} {vs vs' : List (Option Value)} {σ σ' : List (Addr × Obj)} {h : Heap} {s₀ : Shared} {tk : Nat} {env : Env} {E : Value → Shared → Prop}

theorem via_news {α : Type} {t : Sem α} {Q : α → Shared → Prop} (D : Mem G L nm vs σ h) (P : List (Addr × Obj) → α → Heap → Prop)
    (hX : ∀ m news, Fr h00 L h m → News h00 L h news → wpAny (MM w) A t (fun a s' => ∃ h' tk', s' = S s₀ h' tk' ∧ Fr h00 L h' m ∧ News h00 L h' news ∧ P news a h') E (S s₀ h tk))
    (hQ : ∀ a h' tk', Mem G L nm vs σ h' → (∀ b o, h.get? b = some o → b ≠ L → h'.get? b = some o ∧ P [(b, o)] a h') → P [] a h' → Q a (S s₀ h' tk')) : wpAny (MM w) A t Q E (S s₀ h tk) := by
  obtain ⟨m, nsm, am⟩ := D.ns
  have F : Fr h00 L h m := ⟨nsm, (fun b o e => by rw [h00_none] at e; cases e), Nat.zero_le _⟩
  have key := wpAny_both (ι := Option { p : Addr × Obj // h.get? p.1 = some p.2 ∧ p.1 ≠ L }) (fun i => hX m (match i with | none => [] | some p => [p.1]) F (by
    cases i with
    | none => intro p hp; cases hp
    | some p => intro q hq; rw [List.mem_singleton.mp hq]; exact ⟨p.2.1, p.2.2, h00_none _⟩))
  refine wpAny_mono key (fun a s' hz => ?_) fun _ _ z => z
  obtain ⟨h', tk', rfl, F', _, hp⟩ := hz none
  have kp : ∀ b o, h.get? b = some o → b ≠ L → h'.get? b = some o ∧ P [(b, o)] a h' := fun b o e ne => by
    obtain ⟨h2, tk2, e2, _, hk, hp2⟩ := hz (some ⟨(b, o), e, ne⟩)
    have : h2 = h' := (congrArg Shared.heap e2).symm
    subst this
    exact ⟨(hk (b, o) (.head _)).1, hp2⟩
  refine hQ a h' tk' ⟨⟨m, F'.ns, am⟩, fun b o e => (kp b o (D.keep b o e) ?_).1, fun p hp => (kp _ _ (D.own p hp) (D.off p hp).1).1, D.off, D.nd, D.loc, D.nmnd⟩ kp hp
  rintro rfl
  rw [D.loc] at e; cases e

/-- a new object, told by a rule of the ledger -/
theorem via_new {t : Sem Value} {Q : Value → Shared → Prop} (D : Mem G L nm vs σ h) (P : Obj → Prop)
    (hX : ∀ m news, Fr h00 L h m → News h00 L h news → wpAny (MM w) A t (fun v s' => ∃ h' tk' B o, v = .ref B ∧ s' = S s₀ h' tk' ∧ Fr h00 L h' m ∧ News h00 L h' ((B, o) :: news) ∧ (∀ p ∈ news, p.1 < B) ∧ P o) E (S s₀ h tk))
    (hQ : ∀ B o h' tk', Mem G L nm vs ((B, o) :: σ) h' → P o → Q (.ref B) (S s₀ h' tk')) : wpAny (MM w) A t Q E (S s₀ h tk) := by
  refine via_news D (fun news v h' => ∃ B o, v = .ref B ∧ h'.get? B = some o ∧ B ≠ L ∧ P o ∧ ∀ p ∈ news, p.1 < B) (fun m news F N => wpAny_mono (hX m news F N) (fun v s' z => ?_) fun _ _ z => z) fun v h' tk' D' kp hp => ?_
  · obtain ⟨h', tk', B, o, rfl, rfl, F', N', lt, hP⟩ := z
    exact ⟨h', tk', rfl, F', fun p hp => N' p (.tail _ hp), B, o, rfl, (N' _ (.head _)).1, (N' _ (.head _)).2.1, hP, lt⟩
  · obtain ⟨B, o, rfl, hB, hBL, hP, _⟩ := hp
    have nB : h.get? B = none := by
      cases q : h.get? B with
      | none => rfl
      | some ob =>
        obtain ⟨_, B', o', e, _, _, _, lt⟩ := kp B ob q hBL
        cases e
        exact absurd (lt _ (.head _)) (Nat.lt_irrefl _)
    refine hQ B o h' tk' ?_ hP
    refine ⟨D'.ns, D'.keep, ?_, ?_, ?_, D'.loc, D'.nmnd⟩
    · intro p hp
      rcases List.mem_cons.mp hp with rfl | hp
      · exact hB
      · exact D'.own p hp
    · intro p hp
      rcases List.mem_cons.mp hp with rfl | hp
      · refine ⟨hBL, ?_⟩
        cases q : G B with
        | none => rfl
        | some ob => have := D.keep _ _ q; rw [nB] at this; cases this
      · exact D.off p hp
    · refine List.nodup_cons.mpr ⟨fun hm => ?_, D.nd⟩
      obtain ⟨p, hp, e⟩ := List.mem_map.mp hm
      have := D.own p hp
      have e : p.1 = B := e
      rw [e, nB] at this; cases this

/-! lists and tuples copied, joined, compared -/
theorem cp_list {l : Addr} {xs : List Value} {n : Nat} {T : String} {Q : Value → Shared → Prop} (D : Mem G L nm vs σ h) (hT : T = "list" ∨ T = "tuple") (kn : Knows G σ l { cls := .type T, data := .seq xs.toArray n }) (hz : xs.length ≤ 2 ^ 20)
    (hQ : ∀ r n' h', Mem G L nm vs ((r, listOf xs.toArray n') :: σ) h' → Q (.ref r) (S s₀ h' tk)) : wpAny (MM w) A (call (.type "list") [.ref l]) Q E (S s₀ h tk) :=
  call_list_seq (s := S s₀ h tk) l hT (D.knows kn) rfl rfl (fun h' c' k hn => hQ _ c' _ (D.fresh k hn (size_none _))) (by rw [List.size_toArray, sizeLine_eq]; omega)
theorem tup_of {l : Addr} {xs : List Value} {n : Nat} {Q : Value → Shared → Prop} (D : Mem G L nm vs σ h) (kn : Knows G σ l (listOf xs.toArray n)) (hz : xs.length ≤ 2 ^ 20)
    (hQ : ∀ r h', Mem G L nm vs ((r, tupOf xs.toArray 0) :: σ) h' → Q (.ref r) (S s₀ h' tk)) : wpAny (MM w) A (call (.type "tuple") [.ref l]) Q E (S s₀ h tk) := by
  refine call_tuple_list (s := S s₀ h tk) ⟨_, D.knows kn, rfl, n, rfl⟩ (fun h' k => ?_) (by rw [List.size_toArray, sizeLine_eq]; omega)
  exact hQ _ _ ((D.grown k).push _)
theorem l_add {a b : Addr} {xs ys : List Value} {n n2 : Nat} {Q : Value → Shared → Prop} (D : Mem G L nm vs σ h) (ka : Knows G σ a (listOf xs.toArray n)) (kb : Knows G σ b (listOf ys.toArray n2)) (hz : xs.length + ys.length ≤ 2 ^ 20)
    (hQ : ∀ r h', Mem G L nm vs ((r, listOf (xs ++ ys).toArray 0) :: σ) h' → Q (.ref r) (S s₀ h' tk)) : wpAny (MM w) A (binaryOp .Add (.ref a) (.ref b)) Q E (S s₀ h tk) := by
  have e : xs.toArray ++ ys.toArray = (xs ++ ys).toArray := by simp
  refine concat_meets ⟨_, D.knows ka, rfl⟩ ⟨_, D.knows kb, rfl⟩ noFill_list_add seq_list_add PySem.F.slot_list_add PySem.F.entry_list_add (PySem.F.args_list_add_2 _ _) (list_addW a b xs.toArray ys.toArray n n2 none none #[] #[] (by rw [List.size_toArray, List.size_toArray, sizeLine_eq]; omega)) ⟨D.knows ka, D.knows kb, ?_⟩
  rw [e]
  exact hQ _ _ (D.push _)
theorem isnt_none {v : Value} {Q : Value → Shared → Prop} (hv : v = .none ∨ ∃ i t, v = .int i t) (hQ : Q (.bool (!(v == .none))) (S s₀ h tk)) : wpAny (MM w) A (compareOp .IsNot v .none) Q E (S s₀ h tk) := by
  rcases hv with rfl | ⟨i, t, rfl⟩
  · exact wpAny_isNot_plain rfl hQ
  · exact wpAny_isNot_plain rfl hQ
theorem isis_none {v : Value} {Q : Value → Shared → Prop} (hv : v = .none ∨ ∃ i t, v = .int i t) (hQ : Q (.bool (v == .none)) (S s₀ h tk)) : wpAny (MM w) A (compareOp .Is v .none) Q E (S s₀ h tk) := by
  rcases hv with rfl | ⟨i, t, rfl⟩
  · exact wpAny_is_plain rfl hQ
  · exact wpAny_is_plain rfl hQ
theorem s_eq {x y : Str} {t u : Tok} {Q : Value → Shared → Prop} (hQ : Q (.bool (x == y)) (S s₀ h tk)) : wpAny (MM w) A (compareOp .Eq (.str x t) (.str y u)) Q E (S s₀ h tk) := eq_str hQ
theorem s_add {x y : Str} {t u : Tok} {Q : Value → Shared → Prop} (hz : x.length + y.length ≤ 2 ^ 20) (hQ : ∀ t' tk', Q (.str (x ++ y) t') (S s₀ h tk')) : wpAny (MM w) A (binaryOp .Add (.str x t) (.str y u)) Q E (S s₀ h tk) :=
  SB.add (s := S s₀ h tk) (fun t' tk' => hQ t' tk') (by rw [sizeLine_eq]; omega)
theorem s_int {k : Nat} {t : Tok} {Q : Value → Shared → Prop} (hk : k < 1000) (hQ : ∀ x t' tk', x.length ≤ 1010 → Q (.str x t') (S s₀ h tk')) : wpAny (MM w) A (call (.type "str") [.int k t]) Q E (S s₀ h tk) := by
  refine P.str_of_int (s := S s₀ h tk) ?_ (hQ _ _ (tk + 1) ?_)
  · show (k : Int).natAbs.log2 < 1920
    have : (k : Int).natAbs = k := by omega
    rw [this]
    have := Nat.log2_le_self k
    omega
  · have := len_str_of_int k
    have e : Str.ofString (toString (k : Int)) = (toString (k : Int) : String) := rfl
    omega
end
/-! C1 -/
section
variable {w : World} {A : Around} {G : Gh} {L : Addr} {nm : List Str} {vs vs' : List (Option Value)} {σ σ' : List (Addr × Obj)} {h : Heap} {s₀ s : Shared} {tk : Nat} {env : Env} {E : Value → Shared → Prop}

/-! sorted: a list of ints -/
theorem l_sorted {l : Addr} {xs : List Value} {ns : List Int} {n : Nat} {Q : Value → Shared → Prop} (D : Mem G L nm vs σ h) (kn : Knows G σ l (listOf xs.toArray n)) (hi : IntsAre xs ns) (hz : xs.length < 64)
    (hQ : ∀ r xs' ns' n' h', Mem G L nm vs ((r, listOf xs'.toArray n') :: σ) h' → IntsAre xs' ns' → ns'.Perm ns → ns'.Pairwise (· ≤ ·) → Q (.ref r) (S s₀ h' tk)) :
    wpAny (MM w) A (call (.builtin "sorted") [.ref l]) Q E (S s₀ h tk) := by
  refine sorted_ints (s := S s₀ h tk) ⟨_, D.knows kn, rfl, n, rfl⟩ hi hz fun out ns' a1 a2 a3 => ?_
  obtain ⟨e, he⟩ := sortedAll_at h xs out
  refine hQ (h.objs.size + 1) out.toList ns' e _ ?_ a1 a2 a3
  rw [Array.toArray_toList]
  exact D.fresh (fun _ _ q => sortedAll_old q) he (get_none_of_ge (Nat.le_succ _))

theorem int_keys {kvs : List (Int × Value)} : ∀ {vs : List Value}, vs.length = kvs.length → (∀ (j : Nat) (v : Value), vs[j]? = some v → ∃ k x, kvs[j]? = some (k, x) ∧ (ik w).is k v = true) → IntsAre vs (kvs.map (·.1)) := by
  induction kvs with
  | nil =>
    intro vs hl _
    have : vs = [] := List.length_eq_zero_iff.mp hl
    subst this
    exact .nil
  | cons kv kvs ih =>
    intro vs hl hv
    cases vs with
    | nil => simp at hl
    | cons v vs =>
      obtain ⟨k, x, e, hk⟩ := hv 0 v rfl
      simp only [List.getElem?_cons_zero, Option.some.injEq] at e
      subst e
      obtain ⟨t, rfl⟩ := Value.isInt_shape hk
      exact .cons _ _ (ih (by simpa using hl) fun j v e => by simpa using hv (j + 1) v (by simpa using e))

/-! sorted: a dict with int keys -/
theorem id_sorted {d : Addr} {o : Obj} {kvs : List (Int × Value)} {Q : Value → Shared → Prop} (hh : A.handled = none) (D : Mem G L nm vs σ h) (kn : Knows G σ d o) (I : ID w d o kvs) (hz : kvs.length < 64)
    (hQ : ∀ r xs' ns' n' h' tk', Mem G L nm vs ((r, listOf xs'.toArray n') :: σ) h' → IntsAre xs' ns' → ns'.Perm (kvs.map (·.1)) → ns'.Pairwise (· ≤ ·) → Q (.ref r) (S s₀ h' tk')) :
    wpAny (MM w) A (call (.builtin "sorted") [.ref d]) Q E (S s₀ h tk) := by
  refine via_new D (fun o => ∃ xs' ns' n', o = listOf xs'.toArray n' ∧ IntsAre xs' ns' ∧ ns'.Perm (kvs.map (·.1)) ∧ ns'.Pairwise (· ≤ ·)) (fun m news F N => ?_) fun B o h' tk' D' ⟨xs', ns', n', e, a1, a2, a3⟩ => ?_
  · obtain ⟨ep, hat⟩ := (id_at (s₀ := s₀) (tk := tk) D kn I).dictAt
    refine kdu_sorted (s := S s₀ h tk) (kdl_dict (knd := ik w) (kvs := kvs) (ep := ep) I.1) hh F N hat (by rw [sizeLine_eq]; omega) fun B h' tk' vs F' N' l1 hl hv => ?_
    have hi := int_keys hl hv
    have ho : h'.get? B = some (listOf vs.toArray 0) := (N' _ (.head _)).1
    refine wpAny_call_entry (s := S s₀ h' tk') slot_list_sort ⟨_, ho, rfl⟩ entry_list_sort (list_sort_tree (s := S s₀ h' tk') (n := 0) ho hi (by omega) fun out ns' a1 a2 a3 => ⟨_, rfl, ?_⟩) (args_list_sort _)
    obtain ⟨e, he⟩ := sortedHeap_at (vs := vs) (out := out) ho
    have old : ∀ b o, b ≠ B → h'.get? b = some o → (sortedHeap h' B vs out).get? b = some o := fun b o ne q => (sortedHeap_old ne (Heap.lt_size q)).trans q
    have BL := (N' _ (.head _)).2.1
    refine ⟨sortedHeap h' B vs out, tk', B, listOf out e, rfl, rfl, ⟨?_, fun b o q => (by rw [h00_none] at q; cases q), Nat.zero_le _⟩, ?_, l1, out.toList, ns', e, by rw [Array.toArray_toList], a1, a2, a3⟩
    · exact F'.ns.at' fun o q => old _ _ (Ne.symm BL) q
    · intro p hp
      rcases List.mem_cons.mp hp with rfl | hp
      · exact ⟨he, BL, h00_none _⟩
      · exact ⟨old _ _ (Nat.ne_of_lt (l1 _ hp)) (N' _ (.tail _ hp)).1, (N' _ (.tail _ hp)).2⟩
  · subst e
    exact hQ B _ _ _ _ _ D' a1 a2 a3

/-! a dict whatever its keys: its walk -/
def RawD (h : Heap) (d : Addr) (es : Array DictEntry) (ep : Nat) : Prop := ∃ o, h.get? d = some o ∧ o.ExactDict ∧ o.data = .dict es ep
theorem RawD.typeIs {d : Addr} {es : Array DictEntry} {ep : Nat} (x : RawD s.heap d es ep) : s.TypeIs (.ref d) "dict" := let ⟨o, ho, hc, _⟩ := x; ⟨o, ho, hc.1⟩
theorem RawD.at' {h h' : Heap} {d : Addr} {es : Array DictEntry} {ep : Nat} (x : RawD h d es ep) (k : ∀ o, h.get? d = some o → h'.get? d = some o) : RawD h' d es ep := let ⟨o, ho, r⟩ := x; ⟨o, k o ho, r⟩
theorem RawD.lt {h : Heap} {d : Addr} {es : Array DictEntry} {ep : Nat} (x : RawD h d es ep) : d < h.objs.size := let ⟨_, ho, _⟩ := x; Heap.lt_size ho

theorem raw_iter {d : Addr} {es : Array DictEntry} {ep : Nat} {Q : Value → Shared → Prop} (lo : (d == sysModules) = false) (hm : RawD s.heap d es ep)
    (hQ : Q (.ref s.heap.objs.size) { s with heap := s.heap.push { cls := .type "dict_keyiterator", data := .fields #[.ref d, .int 0 0, .int es.size 0, .int ep 0] } }) : wpAny (MM w) A (pyIter (.ref d)) Q E s := by
  have hT : s.TypeIs (.ref d) "dict" := hm.typeIs
  obtain ⟨o, ho, hc, hd⟩ := hm
  refine wpAny_pyIter_slot hT F.slot_dict_iter (wpAny_call_entry F.slot_dict_iter hT F.entry_dict_iter ?_ (F.args_dict_iter_1 _))
  unfold Builtin.«dict.__iter__» Builtin.Dict.dictSlotNone
  refine wpAny_bind (wpAny_bind (wpAny_notOrdered_dict hT ?_))
  show wpAny _ _ (pure (Value.ref d)) _ _ s
  refine wpAny_pure ?_
  show wpAny _ _ (Builtin.Dict.showsAll d >>= _) _ _ s
  unfold Builtin.Dict.showsAll
  rw [lo]
  refine wpAny_bind (wpAny_pure (wpAny_bind (wpAny_dictEntries ho hd (wpAny_bind (wpAny_dictEpoch ho hd ?_)))))
  exact wpAny_bind (wpAny_newObj_type (wpAny_pure ⟨_, rfl, "dict_keyiterator", _, ⟨_, Heap.get?_push_size _ rfl, rfl⟩, F.slot_dict_keyiterator_next.lookup, hQ⟩))

theorem raw_item {it d : Addr} {i ep : Nat} {es : Array DictEntry} {e : DictEntry} {Q : Option Value → Shared → Prop} (hit : s.heap.IsKeyIter it d i es.size ep) (hm : RawD s.heap d es ep) (hx : es[i]? = some e)
    (hQ : ∀ h', h'.IsKeyIter it d (i + 1) es.size ep → Heap.SameBut it s.heap h' → Q (some e.key) { s with heap := h' }) : wpAny (MM w) A (pyNext (.ref it)) Q E s := by
  obtain ⟨o, ho, hc, hd⟩ := id hit
  obtain ⟨od, hod, hcd, hdd⟩ := hm
  unfold pyNext
  refine wpAny_bind (wpAny_attempt (wpAny_callSpecial?_slot (name := Str.ofString "__next__") hit.typeIs F.slot_dict_keyiterator_next
    (wpAny_call_entry F.slot_dict_keyiterator_next hit.typeIs F.entry_dict_keyiterator_next ?_ (F.args_dict_keyiterator_next_1 _))))
  refine wpAny_bind (wpAny_pure (wpAny_bind (wpAny_bind ?_)))
  first | refine wpAny_bind (wpAny_typeNameOfWhole_keyiter hit.typeIs (wpAny_pure ?_)) | refine wpAny_bind (wpAny_typeNameOf_keyiter hit.typeIs (wpAny_pure ?_))
  refine wpAny_bind (wpAny_fieldsOf ho hd ?_)
  have hown : Builtin.Dict_items.ownsTuple "dict_keyiterator" = false := by decide
  simp only [hown, Bool.false_eq_true, if_false]
  show wpAny _ _ (if (Value.ref d == Value.none) = true then _ else _) _ _ s
  rw [if_neg (show ¬ ((Value.ref d == Value.none) = true) from Bool.false_ne_true)]
  refine wpAny_bind (wpAny_pure (wpAny_bind (wpAny_dictEntries hod hdd ?_)))
  rw [if_neg (by simp)]
  refine wpAny_bind (wpAny_pure (wpAny_bind (wpAny_dictEpoch hod hdd ?_)))
  rw [if_neg (by simp)]
  refine wpAny_pure ?_
  simp only [show ¬ ((i : Int) < 0) from by omega, if_false, Int.toNat_natCast, hx]
  refine wpAny_bind ?_
  first | refine wpAny_bind (wpAny_typeNameOfWhole_keyiter hit.typeIs (wpAny_pure ?_)) | refine wpAny_bind (wpAny_typeNameOf_keyiter hit.typeIs (wpAny_pure ?_))
  refine wpAny_bind (wpAny_isOneOf_keyiter hit.typeIs ?_)
  show wpAny _ _ (setField (.ref it) 1 (rawInt ((i : Int) + 1)) >>= _) _ _ s
  refine wpAny_bind (wpAny_setField ho hd (by simp) ?_)
  have hit' : (s.heap.update it (Obj.mapFields (·.setIfInBounds 1 (rawInt ((i : Int) + 1))))).IsKeyIter it d (i + 1) es.size ep :=
    ⟨_, Heap.get?_update_self _ ho (Obj.isFreed_of_fields (Obj.data_mapFields hd _)), (Obj.cls_mapFields ..).trans hc, by rw [Obj.data_mapFields hd]; simp [rawInt]⟩
  refine wpAny_bind (wpAny_holding (wpAny_bind (wpAny_isOneOf_keyiter (s := { s with heap := s.heap.update it (Obj.mapFields (·.setIfInBounds 1 (rawInt ((i : Int) + 1)))) }) hit'.typeIs ?_)))
  show wpAny _ _ (pure e.key) _ _ _
  exact wpAny_pure (wpAny_pure ⟨_, rfl, wpAny_pure (hQ _ hit' (Heap.SameBut.update ..))⟩)

theorem raw_end {it d : Addr} {i ep : Nat} {es : Array DictEntry} {Q : Option Value → Shared → Prop} (hh : A.handled = none) (hit : s.heap.IsKeyIter it d i es.size ep) (hm : RawD s.heap d es ep) (hx : es[i]? = none)
    (hQ : ∀ h', Heap.ExtBut it s.heap h' → Q none { s with heap := h' }) : wpAny (MM w) A (pyNext (.ref it)) Q E s := by
  obtain ⟨o, ho, hc, hd⟩ := id hit
  obtain ⟨od, hod, hcd, hdd⟩ := hm
  unfold pyNext
  refine wpAny_bind (wpAny_attempt (wpAny_callSpecial?_slot (name := Str.ofString "__next__") hit.typeIs F.slot_dict_keyiterator_next
    (wpAny_call_entry F.slot_dict_keyiterator_next hit.typeIs F.entry_dict_keyiterator_next ?_ (F.args_dict_keyiterator_next_1 _))))
  refine wpAny_bind (wpAny_pure (wpAny_bind (wpAny_bind ?_)))
  first | refine wpAny_bind (wpAny_typeNameOfWhole_keyiter hit.typeIs (wpAny_pure ?_)) | refine wpAny_bind (wpAny_typeNameOf_keyiter hit.typeIs (wpAny_pure ?_))
  refine wpAny_bind (wpAny_fieldsOf ho hd ?_)
  have hown : Builtin.Dict_items.ownsTuple "dict_keyiterator" = false := by decide
  simp only [hown, Bool.false_eq_true, if_false]
  show wpAny _ _ (if (Value.ref d == Value.none) = true then _ else _) _ _ s
  rw [if_neg (show ¬ ((Value.ref d == Value.none) = true) from Bool.false_ne_true)]
  refine wpAny_bind (wpAny_pure (wpAny_bind (wpAny_dictEntries hod hdd ?_)))
  rw [if_neg (by simp)]
  refine wpAny_bind (wpAny_pure (wpAny_bind (wpAny_dictEpoch hod hdd ?_)))
  rw [if_neg (by simp)]
  refine wpAny_pure ?_
  simp only [show ¬ ((i : Int) < 0) from by omega, if_false, Int.toNat_natCast, hx]
  refine wpAny_bind ?_
  first | refine wpAny_bind (wpAny_typeNameOfWhole_keyiter hit.typeIs (wpAny_pure ?_)) | refine wpAny_bind (wpAny_typeNameOf_keyiter hit.typeIs (wpAny_pure ?_))
  show wpAny _ _ (setField (.ref it) 0 .none >>= _) _ _ s
  refine wpAny_bind (wpAny_setField ho hd (by simp) ?_)
  show wpAny _ _ (newExc (.type "StopIteration") [] >>= _) _ _ _
  refine wpAny_bind ?_
  simp only [newExc, newTuple]
  refine wpAny_bind (wpAny_newObj_type ?_ (by size_fits))
  refine wpAny_bind (m := firstArgMember _ _) (wpAny_of_eq (a := Value.none) (by first | rfl | (simp only [firstArgMember]; rfl)) ?_)
  refine wpAny_newObj_type ?_ (by size_fits)
  simp only [raiseNew]
  refine wpAny_bind (wpAny_handled ?_)
  rw [show A.in1.handled = none from hh]
  refine wpAny_bind (wpAny_pure (wpAny_throw ?_))
  refine wpAny_bind (wpAny_isInstance (T := "StopIteration") (b := true) ⟨_, Heap.get?_push_size _ rfl, rfl⟩ isSubtype_stop ?_)
  exact wpAny_pure (hQ _ (((Heap.SameBut.update ..).extBut.push _).push _))

theorem raw_walks (hh : A.handled = none) (I d : Addr) (hne : d ≠ I) (es : Array DictEntry) (ep : Nat) :
    Walks PG w A I [I, d] [I] es.size (fun i v => ∃ e, es[i]? = some e ∧ v = e.key) (fun i h => h.IsKeyIter I d i es.size ep ∧ RawD h d es ep) where
  sub := fun b hb => by simp at hb; simp [hb]
  frame := fun _ _ _ st hk => ⟨st.1.at fun o e => hk I (by simp) o e, st.2.at' fun o e => hk d (by simp) o e⟩
  item := fun i s Q E hi st hQ => by
    obtain ⟨e, he⟩ : ∃ e, es[i]? = some e := ⟨es[i], by simp [hi]⟩
    refine raw_item st.1 st.2 he fun h' hit' hs' => ?_
    exact hQ _ h' s.toks ⟨e, he, rfl⟩ ⟨hit', st.2.at' fun o q => (hs'.2 d hne).trans q⟩ fun b o hb q => hs'.extBut b o (fun z => hb (by simp [z])) q
  done := fun s Q E st hQ => raw_end hh st.1 st.2 (by simp) fun h' he' => hQ h' s.toks fun b o hb q => he' b o (fun z => hb (by simp [z])) q
  self := fun _ _ _ _ st hQ => wpAny_pyIter_keyiter st.1 hQ

theorem raw_src {d : Addr} {es : Array DictEntry} {ep : Nat} (lo : (d == sysModules) = false) : KdlSrc PG w "dict" d d es.size (fun i v => ∃ e, es[i]? = some e ∧ v = e.key) (fun h => RawD h d es ep) where
  type := fun _ hm => hm.typeIs
  there := fun _ hm => ⟨hm.lt, hm.lt⟩
  keep := fun _ _ hm hk => hm.at' fun o e => hk d (.inl rfl) o e
  notList := by decide
  notTuple := by decide
  hint := fun _ _ _ _ hm hq => kdl_hint_dict hm.typeIs hq
  iter := fun _ _ hh hm => ⟨_, _, (fun _ _ hq => raw_iter lo hm hq), raw_walks hh _ d (Nat.ne_of_lt hm.lt) es ep, ⟨⟨_, Heap.get?_push_size _ rfl, rfl, rfl⟩, hm.at' fun o e => Heap.get?_push_of_some _ e⟩⟩
end
/-! C2 -/
/-! the sort's tree of questions: its ends -/
noncomputable def leaves {α : Type} : KasT α → List α
  | .ret a => [a]
  | .ask _ _ k => leaves (k true) ++ leaves (k false)
noncomputable def asks {α : Type} (n : Nat) : KasT α → Bool
  | .ret _ => true
  | .ask i j k => decide (i < n) && decide (j < n) && asks n (k true) && asks n (k false)
theorem of_leaves {α : Type} {cmp : Nat → Nat → (Bool → Shared → Prop) → Shared → Prop} {n : Nat} {s : Shared} (hc : ∀ i j C, i < n → j < n → (∀ b, C b s) → cmp i j C s) {Q : α → Shared → Prop} :
    ∀ t : KasT α, asks n t = true → (∀ a ∈ leaves t, Q a s) → t.kasWp cmp Q s
  | .ret a, _, h => h a (.head _)
  | .ask i j k, ha, h => by
    simp only [asks, Bool.and_eq_true, decide_eq_true_eq] at ha
    refine hc i j _ ha.1.1.1 ha.1.1.2 fun b => ?_
    cases b with
    | true => exact of_leaves hc (k true) ha.1.2 fun a m => h a (List.mem_append_left _ m)
    | false => exact of_leaves hc (k false) ha.2 fun a m => h a (List.mem_append_right _ m)
theorem sort_ends (n : Nat) (h2 : 2 ≤ n) (h3 : n ≤ 3) : asks n (kas_sort n) = true ∧ ∀ p ∈ leaves (kas_sort n), p.toList.Perm (List.range n) := by
  obtain rfl | rfl : n = 2 ∨ n = 3 := by omega
  · exact ⟨by decide +kernel, by decide +kernel⟩
  · exact ⟨by decide +kernel, by decide +kernel⟩
theorem map_getD_range (vs : List Value) : (List.range vs.length).map (fun i => vs.getD i Value.none) = vs := by
  apply List.ext_getElem?
  intro i
  by_cases h : i < vs.length
  · simp [h]
  · simp [h]

section
variable {w : World} {A : Around} {G : Gh} {L : Addr} {nm : List Str} {vs vs' : List (Option Value)} {σ σ' : List (Addr × Obj)} {h : Heap} {s₀ s : Shared} {tk : Nat} {env : Env} {E : Value → Shared → Prop}

theorem via_newK {t : Sem Value} {Q : Value → Shared → Prop} (D : Mem G L nm vs σ h) (K : List (Addr × Obj)) (hK : ∀ p ∈ K, Knows G σ p.1 p.2) (P : Obj → Prop)
    (hX : ∀ m news, Fr h00 L h m → News h00 L h news → News h00 L h K → wpAny (MM w) A t (fun v s' => ∃ h' tk' B o, v = .ref B ∧ s' = S s₀ h' tk' ∧ Fr h00 L h' m ∧ News h00 L h' ((B, o) :: news) ∧ (∀ p ∈ news, p.1 < B) ∧ P o) E (S s₀ h tk))
    (hQ : ∀ B o h' tk', Mem G L nm vs ((B, o) :: σ) h' → P o → Q (.ref B) (S s₀ h' tk')) : wpAny (MM w) A t Q E (S s₀ h tk) :=
  via_new D P (fun m news F N => hX m news F N fun p hp => ⟨D.knows (hK p hp), (hK p hp).elim (fun g => by rintro e; rw [e, D.loc] at g; cases g) fun m => (D.off _ m).1, h00_none _⟩) hQ

/-- a tuple of two ints -/
def IsPair (o : Obj) : Prop := ∃ a t b u n, o = tupOf #[.int a t, .int b u] n
theorem lt_pairs {x y : Addr} {ox oy : Obj} {Q : Bool → Shared → Prop} (hx : s.heap.get? x = some ox) (hy : s.heap.get? y = some oy) (px : IsPair ox) (py : IsPair oy) (hQ : ∀ b, Q b s) : wpAny (MM w) A (keyLt' (tuples' true) (.ref x) (.ref y)) Q E s := by
  obtain ⟨a, t, b, u, n, rfl⟩ := px
  obtain ⟨a', t', b', u', n', rfl⟩ := py
  refine kat_lt hx rfl hy rfl (kat_cons (wpAny_eqBool_int (kat_go (fun _ => kat_yes (kat_cons (wpAny_eqBool_int (kat_go (fun _ => kat_yes (kat_nil (hQ _))) fun _ => kat_no ?_)))) fun _ => kat_no ?_)))
  · exact kat_one _ _ (lt_int (hQ _))
  · exact oneLt_int (hQ _)

theorem sort_short {B : Addr} {vs : List Value} {n : Nat} {Q : Value → Shared → Prop} (ho : s.heap.get? B = some (listOf vs.toArray n)) (h2 : vs.length < 2) (hQ : Q .none { s with heap := sortedHeap s.heap B vs vs.toArray }) :
    wpAny (MM w) A (call (.builtin "list.sort") [.ref B]) Q E s := by
  refine wpAny_call_entry slot_list_sort ⟨_, ho, rfl⟩ entry_list_sort ?_ (args_list_sort _)
  rw [list_sort_plain]
  have ha : B < s.heap.objs.size := Heap.lt_size ho
  have hz : vs.toArray.size < 2 := by rw [List.size_toArray]; exact h2
  refine wpAny_bind (listItems_at ho rfl (wpAny_bind (listUpdate_at ho rfl ?_ (by rw [sizeLine_eq]; omega))))
  obtain ⟨e1, ho1⟩ : ∃ e1, (s.heap.update B (Obj.mapSeq fun _ => #[])).get? B = some (seqObj "list" #[] e1) := ⟨_, get?_update_seq ho (fun _ => #[])⟩
  refine wpAny_bind (seqEpoch_at ho1 rfl (wpAny_bind (wpAny_newTuple (wpAny_bind (wpAny_newList (wpAny_holding ?_) (Nat.zero_le _))) (by rw [sizeLine_eq]; simp; omega))))
  have ho6 : (((s.heap.update B (Obj.mapSeq fun _ => #[])).push (seqObj "tuple" vs.toArray 0)).push (seqObj "list" #[] 0)).get? B = some (seqObj "list" #[] e1) :=
    Heap.get?_push_of_some _ (Heap.get?_push_of_some _ ho1)
  dsimp only
  rw [if_pos hz, if_pos hz]
  refine wpAny_bind (wpAny_pure ?_)
  rw [StateT.run_pure]
  refine wpAny_bind (wpAny_pure ?_)
  dsimp only
  refine wpAny_bind (seqEpoch_at (o := seqObj "list" #[] e1) ho6 rfl ?_)
  have e : (arrOf (SortSt.mk' general' (vs.toArray.zip vs.toArray) #[] 7 none)).map (·.2) = vs.toArray := by
    show (vs.toArray.zip vs.toArray).map (·.2) = vs.toArray
    apply Array.toList_inj.mp
    rw [Array.toList_map, Array.toList_zip]
    exact List.map_snd_zip (Nat.le_refl _)
  rw [e]
  refine wpAny_bind (listUpdate_at (o := seqObj "list" #[] e1) ho6 rfl ?_ (Nat.zero_le _) (by rw [sizeLine_eq]; omega))
  simp only [bne_self_eq_false, Bool.false_eq_true, if_false]
  exact wpAny_pure ⟨_, rfl, hQ⟩

theorem wb_upd {B : Addr} {o : Obj} {news : List (Addr × Obj)} (hlt : ∀ q ∈ news, q.1 < B) : UpdF B o ((B, o) :: news) fun o' => (B, o') :: news := .head fun p hp => Nat.ne_of_lt (hlt p hp)

theorem pairs_known {xs : List (List Int × Addr × Value)} (h : ∀ x ∈ xs, ∃ o, Knows G σ x.2.1 o ∧ IsPair o) : ∃ K : List (Addr × Obj), (∀ p ∈ K, Knows G σ p.1 p.2) ∧ ∀ x ∈ xs, ∃ o, (x.2.1, o) ∈ K ∧ IsPair o := by
  induction xs with
  | nil => exact ⟨[], (fun _ hp => nomatch hp), fun _ hx => nomatch hx⟩
  | cons x xs ih =>
    obtain ⟨K, k1, k2⟩ := ih fun y hy => h y (.tail _ hy)
    obtain ⟨o, ko, po⟩ := h x (.head _)
    refine ⟨(x.2.1, o) :: K, fun p hp => ?_, fun y hy => ?_⟩
    · rcases List.mem_cons.mp hp with rfl | hp
      · exact ko
      · exact k1 p hp
    · rcases List.mem_cons.mp hy with rfl | hy
      · exact ⟨o, .head _, po⟩
      · obtain ⟨o', m, p'⟩ := k2 y hy
        exact ⟨o', .tail _ m, p'⟩

theorem firsts_of {h : Heap} : ∀ {vs : List Value}, (∀ v ∈ vs, ∃ a o, v = .ref a ∧ h.get? a = some o ∧ IsPair o) → ∃ fs, KatTups h vs fs ∧ fs.length = vs.length ∧ ∀ v ∈ fs, ∃ a t, v = .int a t
  | [], _ => ⟨[], .nil, rfl, fun _ hv => nomatch hv⟩
  | v :: vs, hv => by
    obtain ⟨fs, f1, f2, f3⟩ := firsts_of fun u hu => hv u (.tail _ hu)
    obtain ⟨a, _, rfl, ho, x, t, y, u, n, rfl⟩ := hv v (.head _)
    refine ⟨.int x t :: fs, .cons ho rfl rfl rfl f1, by simp [f2], fun v hv => ?_⟩
    rcases List.mem_cons.mp hv with rfl | hv
    · exact ⟨_, _, rfl⟩
    · exact f3 v hv

/-! sorted: a dict with pairs as keys -/
theorem td_sorted {d : Addr} {o : Obj} {xs : List (List Int × Addr × Value)} {Q : Value → Shared → Prop} (hh : A.handled = none) (D : Mem G L nm vs σ h) (kn : Knows G σ d o) (T : TD w d o xs) (hp : ∀ x ∈ xs, ∃ o, Knows G σ x.2.1 o ∧ IsPair o) (hz : xs.length ≤ 3)
    (hQ : ∀ (r : Addr) (out : List Addr) (n' : Nat) h' tk', Mem G L nm vs ((r, listOf (out.map Value.ref).toArray n') :: σ) h' → out.Perm (xs.map (·.2.1)) → Q (.ref r) (S s₀ h' tk')) :
    wpAny (MM w) A (call (.builtin "sorted") [.ref d]) Q E (S s₀ h tk) := by
  obtain ⟨lo, es, ep, hex, hdat, hes, hnd⟩ := T
  obtain ⟨K, hK, hKx⟩ := pairs_known hp
  have hraw : RawD (S s₀ h tk).heap d es ep := ⟨o, D.knows kn, hex, hdat⟩
  have hsz : es.size = xs.length := by rw [← Array.length_toList, hes, List.length_map]
  refine via_newK D K hK (fun o => ∃ (out : List Addr) (n' : Nat), o = listOf (out.map Value.ref).toArray n' ∧ out.Perm (xs.map (·.2.1))) (fun m news F N NK => ?_) fun B o h' tk' D' ⟨out, n', e, a1⟩ => ?_
  · have N2 : News h00 L h (K ++ news) := fun p hp => (List.mem_append.mp hp).elim (NK p) (N p)
    refine kdu_sorted (s := S s₀ h tk) (raw_src lo) hh F N2 hraw (by rw [sizeLine_eq]; omega) fun B h' tk' vs F' N' l1 hl hv => ?_
    have evs : vs = (xs.map (·.2.1)).map Value.ref := by
      apply List.ext_getElem?
      intro j
      by_cases hj : j < vs.length
      · obtain ⟨e, he, hk⟩ := hv j vs[j] (by simp [hj])
        have hje : es.toList[j]? = some e := by rw [Array.getElem?_toList]; exact he
        rw [hes, List.getElem?_map] at hje
        cases hx : xs[j]? with
        | none => rw [hx] at hje; cases hje
        | some x =>
          rw [hx] at hje
          simp only [Option.map_some, Option.some.injEq] at hje
          simp only [List.getElem?_map, hx, Option.map_some]
          rw [show vs[j]? = some vs[j] by simp [hj], hk, ← hje]
          rfl
      · have : xs.length ≤ j := by omega
        simp [List.getElem?_eq_none (Nat.le_of_not_lt hj), this]
    have ho : h'.get? B = some (listOf vs.toArray 0) := (N' _ (.head _)).1
    have BL := (N' _ (.head _)).2.1
    have hpairs : ∀ hh : Heap, (∀ p ∈ K, hh.get? p.1 = some p.2) → ∀ v ∈ vs, ∃ a o, v = .ref a ∧ hh.get? a = some o ∧ IsPair o := fun hh hk v hv => by
      rw [evs] at hv
      obtain ⟨a, ha, rfl⟩ := List.mem_map.mp hv
      obtain ⟨x, hx, rfl⟩ := List.mem_map.mp ha
      obtain ⟨o, m, po⟩ := hKx x hx
      exact ⟨_, o, rfl, hk _ m, po⟩
    by_cases h2 : vs.length < 2
    · refine sort_short (s := S s₀ h' tk') ho h2 ?_
      obtain ⟨e, he⟩ := sortedHeap_at (vs := vs) (out := vs.toArray) ho
      have old : ∀ b o, b ≠ B → h'.get? b = some o → (sortedHeap h' B vs vs.toArray).get? b = some o := fun b o ne q => (sortedHeap_old ne (Heap.lt_size q)).trans q
      refine ⟨_, tk', B, listOf vs.toArray e, rfl, rfl, ⟨?_, fun b o q => (by rw [h00_none] at q; cases q), Nat.zero_le _⟩, ?_, fun p hp => l1 p (List.mem_append_right _ hp), _, e, by rw [evs], List.Perm.refl _⟩
      · exact F'.ns.at' fun o q => old _ _ (Ne.symm BL) q
      · intro p hp
        rcases List.mem_cons.mp hp with rfl | hp
        · exact ⟨he, BL, h00_none _⟩
        · have q := N' p (.tail _ (List.mem_append_right _ hp))
          exact ⟨old _ _ (Nat.ne_of_lt (l1 _ (List.mem_append_right _ hp))) q.1, q.2⟩
    · have hn2 : 2 ≤ vs.length := by omega
      have hn3 : vs.length ≤ 3 := by omega
      refine kat_lsort (s := S s₀ h' tk') (vs := vs) F' N' (wb_upd l1) (by simp) hn2 (by omega) fun e1 h2 F2 N2' => ?_
      have kk : ∀ p ∈ K, h2.get? p.1 = some p.2 := fun p hp => (N2' p (.tail _ (List.mem_append_left _ hp))).1
      obtain ⟨fs, f1, f2, f3⟩ := firsts_of (hpairs h2 kk)
      refine kat_kind (T := .type "int") f1 (by omega) (fun v hv => ?_) (by decide) ?_
      · obtain ⟨a, t, rfl⟩ := f3 v hv
        exact Looks.of_pure rfl
      · show (kas_sort vs.length).kasWp (kas_ask PG w A.in1.in1 (tuples' true) vs) _ { S s₀ h' tk' with heap := h2 }
        obtain ⟨q1, q2⟩ := sort_ends vs.length hn2 hn3
        refine of_leaves (n := vs.length) (fun i j C hi hj hC => ?_) _ q1 fun p hp => ?_
        · unfold kas_ask
          obtain ⟨a, oa, e1, g1, p1⟩ := hpairs h2 kk vs[i] (List.getElem_mem hi)
          obtain ⟨b, ob, e2, g2, p2⟩ := hpairs h2 kk vs[j] (List.getElem_mem hj)
          rw [show vs.getD i Value.none = vs[i] by simp [hi], show vs.getD j Value.none = vs[j] by simp [hj], e1, e2]
          exact lt_pairs (s := { S s₀ h' tk' with heap := h2 }) g1 g2 p1 p2 hC
        · have hperm := (q2 p hp).map fun i => vs.getD i Value.none
          rw [map_getD_range] at hperm
          refine KasFin.intro F2 N2' (wb_upd l1) fun h3 c F3 N3 => ?_
          obtain ⟨out, hout, hpo⟩ : ∃ out : List Addr, (p.toList.map fun i => vs.getD i Value.none) = out.map Value.ref ∧ out.Perm (xs.map (·.2.1)) := by
            have q : ∃ f : Value → Addr, ∀ a, f (.ref a) = a := ⟨fun v => match v with | .ref a => a | _ => 0, fun _ => rfl⟩
            obtain ⟨f, hf⟩ := q
            refine ⟨(p.toList.map fun i => vs.getD i Value.none).map f, ?_, ?_⟩
            · rw [List.map_map]
              symm
              refine (List.map_congr_left (g := id) fun v hv => ?_).trans (List.map_id _)
              have hv' := hperm.mem_iff.mp hv
              rw [evs] at hv'
              obtain ⟨a, _, rfl⟩ := List.mem_map.mp hv'
              show Value.ref (f (.ref a)) = _
              rw [hf]; rfl
            · have := hperm.map f
              rw [evs, List.map_map (f := Value.ref)] at this
              rw [evs]
              refine this.trans (List.Perm.of_eq ?_)
              exact (List.map_congr_left (g := id) fun a _ => hf a).trans (List.map_id _)
          rw [hout] at N3
          refine ⟨h3, tk', B, _, rfl, rfl, F3, fun p hp => ?_, fun p hp => l1 p (List.mem_append_right _ hp), out, c, rfl, hpo⟩
          rcases List.mem_cons.mp hp with rfl | hp
          · exact N3 _ (.head _)
          · exact N3 p (.tail _ (List.mem_append_right _ hp))
  · subst e
    exact hQ B out _ _ _ D' a1

/-! a loop over a dict with pairs as keys -/
theorem letGo_keyiter {target : Expr} {I d : Addr} {i n ep : Nat} {v : Value} {Q' : Unit → Shared → Prop} {s' : Shared} {E : Value → Shared → Prop} (hit : s'.heap.IsKeyIter I d i n ep) (h : Q' () s') :
    wpAny (MM w) A (letOwnedTupleGo target (.ref I) v) Q' E s' := by
  obtain ⟨o, ho, hc, hd⟩ := hit
  unfold letOwnedTupleGo
  cases target <;> first
    | exact wpAny_pure h
    | (cases v <;> first
        | exact wpAny_pure h
        | (refine wpAny_bind (wpAny_load ho ?_)
           rw [hc, hd]
           exact wpAny_pure h))
theorem r_iter_td {d : Addr} {o : Obj} {xs : List (List Int × Addr × Value)} {target : Expr} {body : List Stmt} {R : Result → Shared → Prop} {E : Value → Shared → Prop} (hh : A.handled = none)
    (D : Mem G L nm vs σ h) (T : TD w d o xs) (J : Nat → Inv) (hsrc : ∀ i G vs σ, J i G vs σ → Knows G σ d o) (h0 : J 0 G vs σ)
    (turn : ∀ i G vs σ h tk x I oI, xs[i]? = some x → J i G vs σ → Mem G L nm vs ((I, oI) :: σ) h →
      wpAny (MM w) A (assign target env (.ref x.2.1)) (fun _ s₂ => wpAny (MM w) A (execs body env) (Turn s₀ L nm [(I, oI)] (J (i + 1)) R) F0 s₂) F0 (S s₀ h tk))
    (done : ∀ G vs σ h tk, J xs.length G vs σ → Mem G L nm vs σ h → R (.ok .next) (S s₀ h tk)) :
    wpAny (MM w) A (pyIter (.ref d)) (fun it s₂ => codeAny (MM w) A (.forLoop target it body [] env) R s₂) E (S s₀ h tk) := by
  obtain ⟨lo, es, ep, hex, hdat, hes, hnd⟩ := T
  have od := D.knows (hsrc _ _ _ _ h0)
  have hraw : RawD (S s₀ h tk).heap d es ep := ⟨o, od, hex, hdat⟩
  have hne : d ≠ h.objs.size := Nat.ne_of_lt (Heap.lt_size od)
  have hsz : es.size = xs.length := by rw [← Array.length_toList, hes, List.length_map]
  refine raw_iter lo hraw ?_
  have W := raw_walks (w := w) (A := A) hh h.objs.size d hne es ep
  refine loop_walk W (fun i h st => st.1.elim fun o z => ⟨o, z.1⟩) J (fun b hb hn => ?_) (D.push { cls := .type "dict_keyiterator", data := .fields #[.ref d, .int 0 0, .int es.size 0, .int ep 0] })
    ⟨⟨_, Heap.get?_push_size _ rfl, rfl, rfl⟩, hraw.at' fun o e => Heap.get?_push_of_some _ e⟩ h0
    (fun i G vs σ h tk v oI hi hP hJ D => ?_) (fun G vs σ h tk hJ D => done G vs σ h tk (hsz ▸ hJ) D) (fun i h tk v Q E st q => letGo_keyiter (s' := S s₀ h tk) st.1 q)
  · rcases List.mem_cons.mp hb with e | e
    · exact absurd e hn
    · exact ⟨_, fun i G vs σ j => (List.mem_singleton.mp e) ▸ hsrc i G vs σ j⟩
  · obtain ⟨e, he, rfl⟩ := hP
    have hje : es.toList[i]? = some e := by rw [Array.getElem?_toList]; exact he
    rw [hes, List.getElem?_map] at hje
    cases hx : xs[i]? with
    | none => rw [hx] at hje; cases hje
    | some x =>
      rw [hx] at hje
      simp only [Option.map_some, Option.some.injEq] at hje
      rw [← hje]
      exact turn i G vs σ h tk x _ oI hx hJ D
theorem r_iter_tdP {d : Addr} {o : Obj} {xs : List (List Int × Addr × Value)} {target : Expr} {body : List Stmt} {R : Result → Shared → Prop} {E : Value → Shared → Prop} (hh : A.handled = none)
    (D : Mem G L nm vs σ h) (T : TD w d o xs) (J : Nat → Inv) (hsrc : ∀ i G vs σ, J i G vs σ → Knows G σ d o) (h0 : J 0 G vs σ)
    (turn : ∀ (R' : Result → Shared → Prop) i G vs σ h tk x I oI, xs[i]? = some x → J i G vs σ → Mem G L nm vs ((I, oI) :: σ) h →
      wpAny (MM w) A (assign target env (.ref x.2.1)) (fun _ s₂ => wpAny (MM w) A (execs body env) (Turn s₀ L nm [(I, oI)] (J (i + 1)) R') F0 s₂) F0 (S s₀ h tk))
    (done : ∀ G vs σ h tk, J xs.length G vs σ → Mem G L nm vs σ h → R (.ok .next) (S s₀ h tk)) :
    wpAny (MM w) A (pyIter (.ref d)) (fun it s₂ => codeAny (MM w) A (.forLoop target it body [] env) R s₂) E (S s₀ h tk) :=
  r_iter_td hh D T J hsrc h0 (turn R) done
end
/-! D0 -/
/-! what the law builds, as plain data -/
structure Data where
  sigs : List Bool
  nets : List (List Int)
  cells : List (Int × List Int)
  roots : List (List Int)
  ports : List Nat
  rows : List (Nat × List Int)

structure Good (d : Data) : Prop where
  m7 : d.sigs.length ≤ 7
  nm : d.nets.length = d.sigs.length
  n4 : ∀ ns ∈ d.nets, ns.length ≤ 4
  c6 : d.cells.length ≤ 6
  i2 : ∀ c ∈ d.cells, c.2.length ≤ 2
  r3 : d.roots.length ≤ 3
  rl : ∀ r ∈ d.roots, r.length ≤ 3
  p3 : d.ports.length ≤ 3
  pk : ∀ k ∈ d.ports, k < d.sigs.length
  w7 : d.rows.length ≤ 7
  wk : ∀ r ∈ d.rows, r.1 < d.sigs.length
  w4 : ∀ r ∈ d.rows, r.2.length ≤ 4
  disj : ∀ (i j : Nat) (xs ys : List Int) (n : Int), d.nets[i]? = some xs → d.nets[j]? = some ys → n ∈ xs → n ∈ ys → i = j
  outs : (d.cells.map (·.1)).Nodup

def All2 {α β : Type} (P : α → β → Prop) (xs : List α) (ys : List β) : Prop := xs.length = ys.length ∧ ∀ (i : Nat) (x : α) (y : β), xs[i]? = some x → ys[i]? = some y → P x y
theorem All2.nil {α β : Type} {P : α → β → Prop} : All2 P [] [] := ⟨rfl, fun i x y h => by simp at h⟩
theorem All2.snoc {α β : Type} {P : α → β → Prop} {xs : List α} {ys : List β} {x : α} {y : β} (h : All2 P xs ys) (p : P x y) : All2 P (xs ++ [x]) (ys ++ [y]) := by
  refine ⟨by simp [h.1], fun i a b ha hb => ?_⟩
  by_cases hi : i < xs.length
  · rw [List.getElem?_append_left hi] at ha
    rw [List.getElem?_append_left (h.1 ▸ hi)] at hb
    exact h.2 i a b ha hb
  · rw [List.getElem?_append_right (Nat.le_of_not_lt hi)] at ha
    rw [List.getElem?_append_right (h.1 ▸ Nat.le_of_not_lt hi)] at hb
    have hl := h.1
    have : i - xs.length = 0 := by
      rcases Nat.eq_zero_or_pos (i - xs.length) with e | e
      · exact e
      · obtain ⟨k, hk⟩ : ∃ k, i - xs.length = k + 1 := ⟨i - xs.length - 1, by omega⟩
        rw [hk] at ha; simp at ha
    rw [this] at ha
    rw [show i - ys.length = 0 by omega] at hb
    simp at ha hb
    subst ha hb
    exact p
theorem All2.get {α β : Type} {P : α → β → Prop} {xs : List α} {ys : List β} (h : All2 P xs ys) {i : Nat} {x : α} (hx : xs[i]? = some x) : ∃ y, ys[i]? = some y ∧ P x y := by
  have hi := (List.getElem?_eq_some_iff.mp hx).1
  obtain ⟨y, hy⟩ : ∃ y, ys[i]? = some y := ⟨ys[i]'(h.1 ▸ hi), by simp [h.1 ▸ hi]⟩
  exact ⟨y, hy, h.2 i x y hx hy⟩
theorem All2.get' {α β : Type} {P : α → β → Prop} {xs : List α} {ys : List β} (h : All2 P xs ys) {i : Nat} {y : β} (hy : ys[i]? = some y) : ∃ x, xs[i]? = some x ∧ P x y := by
  have hi := (List.getElem?_eq_some_iff.mp hy).1
  obtain ⟨x, hx⟩ : ∃ x, xs[i]? = some x := ⟨xs[i]'(h.1.symm ▸ hi), by simp [h.1.symm ▸ hi]⟩
  exact ⟨x, hx, h.2 i x y hx hy⟩
theorem All2.mono {α β : Type} {P P' : α → β → Prop} {xs : List α} {ys : List β} (h : All2 P xs ys) (hp : ∀ x y, P x y → P' x y) : All2 P' xs ys := ⟨h.1, fun i x y a b => hp _ _ (h.2 i x y a b)⟩

/-! how it lies -/
def Fld (o : Obj) (x : Str) (u : Option Value) : Prop := ∃ es n, o = dictOf es n ∧ getL x es = some u
theorem FD.fld {o : Obj} {nf : List Str} {vf : List (Option Value)} (F : FD o nf vf) {x : Str} {u : Option Value} (a : AtO nf vf x u) : Fld o x u := let ⟨es, n, e, _, hf⟩ := F; ⟨es, n, e, hf x u a⟩
def IntList (look : Gh) (l : Addr) (ns : List Int) : Prop := ∃ ys n, look l = some (listOf ys.toArray n) ∧ IntsAre ys ns
def IntTup (look : Gh) (l : Addr) (ns : List Int) : Prop := ∃ ys n, look l = some (tupOf ys.toArray n) ∧ IntsAre ys ns
def kInteger : Str := "integer"
def SigOK (look : Gh) (k : Nat) (p : Bool) (a : Addr) : Prop :=
  ∃ dx o kd t t' v, look a = some (instObj 143 dx) ∧ look dx = some o ∧ Fld o "key" (some (.int k t')) ∧ Fld o "kind" (some (.str kd t)) ∧ Fld o "first" (some v) ∧ Fld o "is_memory" none ∧ (v = .none ∨ ∃ i t, v = .int i t) ∧ p = (kd == kInteger && v == .none)
def SigsOK (look : Gh) (ss : List Addr) (ps : List Bool) : Prop := ss.length = ps.length ∧ ∀ (k : Nat) (a : Addr) (p : Bool), ss[k]? = some a → ps[k]? = some p → SigOK look k p a
def CellOK (look : Gh) (a : Addr) (c : Int × List Int) : Prop := ∃ x t u ai n, look a = some (tupOf #[.str x t, .int c.1 u, .ref ai, .none] n) ∧ IntTup look ai c.2
def PortOK (look : Gh) (a : Addr) (k : Nat) : Prop := ∃ x t y u v n, look a = some (tupOf #[.str x t, .str y u, .int k v] n)
def kNet : Str := "net"
/-- what a row takes in: one net, or a tuple of them -/
def Takes (look : Gh) (x : Str) (v : Value) (ns : List Int) : Prop := (x = kNet ∧ ∃ i t, v = .int i t ∧ ns = [i]) ∨ ((x == kNet) = false ∧ ∃ ai, v = .ref ai ∧ IntTup look ai ns)
def RowOK (look : Gh) (a : Addr) (r : Nat × List Int) : Prop :=
  ∃ x t u b t' v more n, look a = some (tupOf ([.str x t, .int r.1 u, .int b t', v] ++ more).toArray n) ∧ (more = [] ∨ ∃ c t'', more = [.int c t'']) ∧ Takes look x v r.2
def NetsOK (w : World) (look : Gh) (an : Addr) (nets : List (List Int)) : Prop :=
  ∃ o kvs, look an = some o ∧ ID w an o kvs ∧ kvs.length = nets.length ∧ ∀ (k : Nat) (ns : List Int), nets[k]? = some ns → ∃ l, valueAt kvs (k : Int) = some (.ref l) ∧ IntList look l ns
def DrvAt (w : World) (look : Gh) (x : List Int × Addr × Value) (ns : List Int) : Prop := (∃ o, look x.2.1 = some o ∧ IsPair o ∧ TupKeyObj (ik w) x.1 o) ∧ ∃ l, x.2.2 = .ref l ∧ IntList look l ns
def DrvOK (w : World) (look : Gh) (ad : Addr) (roots : List (List Int)) : Prop := ∃ o xs, look ad = some o ∧ TD w ad o xs ∧ All2 (DrvAt w look) xs roots

structure Laid (w : World) (look : Gh) (d : Data) (aD aN aW aR : Addr) : Prop where
  design : ∃ dd o al ap, look aD = some (instObj 206 dd) ∧ look dd = some o ∧ Fld o "signals" (some (.ref al)) ∧ Fld o "ports" (some (.ref ap)) ∧
    (∃ ss n, look al = some (listOf (ss.map Value.ref).toArray n) ∧ SigsOK look ss d.sigs) ∧ (∃ ps n, look ap = some (listOf (ps.map Value.ref).toArray n) ∧ All2 (PortOK look) ps d.ports)
  netlist : ∃ dn o ac, look aN = some (instObj 290 dn) ∧ look dn = some o ∧ Fld o "cells" (some (.ref ac)) ∧ (∃ cs n, look ac = some (listOf (cs.map Value.ref).toArray n) ∧ All2 (CellOK look) cs d.cells)
  wires : ∃ dw o an ad, look aW = some (instObj 52 dw) ∧ look dw = some o ∧ Fld o "nets" (some (.ref an)) ∧ Fld o "drivers" (some (.ref ad)) ∧ NetsOK w look an d.nets ∧ DrvOK w look ad d.roots
  rows : ∃ rs n, look aR = some (listOf (rs.map Value.ref).toArray n) ∧ All2 (RowOK look) rs d.rows

section
variable {w : World} {look look' : Gh}
def Le (g g' : Gh) : Prop := ∀ b o, g b = some o → g' b = some o
theorem Le.trans {a b c : Gh} (x : Le a b) (y : Le b c) : Le a c := fun _ _ e => y _ _ (x _ _ e)
theorem IntList.mono {l : Addr} {ns : List Int} (k : Le look look') (x : IntList look l ns) : IntList look' l ns := let ⟨ys, n, e, i⟩ := x; ⟨ys, n, k _ _ e, i⟩
theorem IntTup.mono {l : Addr} {ns : List Int} (k : Le look look') (x : IntTup look l ns) : IntTup look' l ns := let ⟨ys, n, e, i⟩ := x; ⟨ys, n, k _ _ e, i⟩
theorem SigOK.mono {i : Nat} {p : Bool} {a : Addr} (k : Le look look') (x : SigOK look i p a) : SigOK look' i p a := let ⟨dx, o, kd, t, t', v, e1, e2, r⟩ := x; ⟨dx, o, kd, t, t', v, k _ _ e1, k _ _ e2, r⟩
theorem SigsOK.mono {ss : List Addr} {ps : List Bool} (k : Le look look') (x : SigsOK look ss ps) : SigsOK look' ss ps := ⟨x.1, fun i a p h1 h2 => (x.2 i a p h1 h2).mono k⟩
theorem CellOK.mono {a : Addr} {c : Int × List Int} (k : Le look look') (x : CellOK look a c) : CellOK look' a c := let ⟨x, t, u, ai, n, e, r⟩ := x; ⟨x, t, u, ai, n, k _ _ e, r.mono k⟩
theorem PortOK.mono {a : Addr} {c : Nat} (k : Le look look') (x : PortOK look a c) : PortOK look' a c := let ⟨x, t, y, u, v, n, e⟩ := x; ⟨x, t, y, u, v, n, k _ _ e⟩
theorem Takes.mono {x : Str} {v : Value} {ns : List Int} (k : Le look look') (t : Takes look x v ns) : Takes look' x v ns := t.imp id fun ⟨a, ai, e, r⟩ => ⟨a, ai, e, r.mono k⟩
theorem RowOK.mono {a : Addr} {r : Nat × List Int} (k : Le look look') (x : RowOK look a r) : RowOK look' a r := let ⟨x, t, u, b, t', v, more, n, e, hm, ht⟩ := x; ⟨x, t, u, b, t', v, more, n, k _ _ e, hm, ht.mono k⟩
theorem NetsOK.mono {an : Addr} {nets : List (List Int)} (k : Le look look') (x : NetsOK w look an nets) : NetsOK w look' an nets :=
  let ⟨o, kvs, e, i, l, r⟩ := x; ⟨o, kvs, k _ _ e, i, l, fun j ns h => let ⟨l, v, il⟩ := r j ns h; ⟨l, v, il.mono k⟩⟩
theorem DrvAt.mono {x : List Int × Addr × Value} {ns : List Int} (k : Le look look') (y : DrvAt w look x ns) : DrvAt w look' x ns := let ⟨⟨o, e, r⟩, l, e', il⟩ := y; ⟨⟨o, k _ _ e, r⟩, l, e', il.mono k⟩
theorem DrvOK.mono {ad : Addr} {roots : List (List Int)} (k : Le look look') (x : DrvOK w look ad roots) : DrvOK w look' ad roots := let ⟨o, xs, e, t, a⟩ := x; ⟨o, xs, k _ _ e, t, a.mono fun _ _ => DrvAt.mono k⟩
theorem Laid.mono {d : Data} {aD aN aW aR : Addr} (k : Le look look') (x : Laid w look d aD aN aW aR) : Laid w look' d aD aN aW aR where
  design := let ⟨dd, o, al, ap, e1, e2, f1, f2, ⟨ss, n, e3, s⟩, ps, n', e4, p⟩ := x.design; ⟨dd, o, al, ap, k _ _ e1, k _ _ e2, f1, f2, ⟨ss, n, k _ _ e3, s.mono k⟩, ps, n', k _ _ e4, p.mono fun _ _ => PortOK.mono k⟩
  netlist := let ⟨dn, o, ac, e1, e2, f, cs, n, e3, c⟩ := x.netlist; ⟨dn, o, ac, k _ _ e1, k _ _ e2, f, cs, n, k _ _ e3, c.mono fun _ _ => CellOK.mono k⟩
  wires := let ⟨dw, o, an, ad, e1, e2, f1, f2, n, r⟩ := x.wires; ⟨dw, o, an, ad, k _ _ e1, k _ _ e2, f1, f2, n.mono k, r.mono k⟩
  rows := let ⟨rs, n, e, r⟩ := x.rows; ⟨rs, n, k _ _ e, r.mono fun _ _ => RowOK.mono k⟩
end

section
variable {w : World} {A : Around} {G : Gh} {L : Addr} {nm : List Str} {vs vs' : List (Option Value)} {σ σ' : List (Addr × Obj)} {h : Heap} {s₀ : Shared} {tk : Nat} {env : Env} {E : Value → Shared → Prop}
  {x dx C : Addr} {o : Obj} {name : Str} {v : Value}
theorem f_get {Q : Value → Shared → Prop} (Γ : Gnd w G) (D : Mem G L nm vs σ h) (kx : Knows G σ x (instObj C dx)) (kd : Knows G σ dx o) (hF : Fld o name (some v)) (hQ : ∀ tk', Q v (S s₀ h tk')) (hg : plainGet (KK w) C name = true := by rfl) (hh : hasDictIn (KK w) C = true := by rfl)
    (ha : findIn (KK w) (.ref C) name = some none := by rfl) (hv : handedIn v = true := by rfl) : wpAny (MM w) A (getAttr (.ref x) name true) Q E (S s₀ h tk) := by
  obtain ⟨es, n, rfl, hf⟩ := hF
  exact get_value (s := S s₀ h tk) (Γ.kin D.keep) (inst_at D kx kd) (plainGet_of hg).1 (findObj_own hh ha rfl hf) hv (hQ _)
theorem f_meth {f : Addr} {pl : Sem Bool} {Q : Value × List Value → Shared → Prop} (Γ : Gnd w G) (D : Mem G L nm vs σ h) (kx : Knows G σ x (instObj C dx)) (kd : Knows G σ dx o) (hF : Fld o name none) (hQ : Q (.ref f, [.ref x]) (S s₀ h tk))
    (hg : plainGet (KK w) C name = true := by rfl) (hf : findIn (KK w) (.ref C) name = some (some (.ref f)) := by rfl) (ht : isFn (KK w) (.ref f) = true := by rfl) : wpAny (MM w) A (getMethod (.ref x) name pl) Q E (S s₀ h tk) := by
  obtain ⟨es, n, rfl, hff⟩ := hF
  exact method_fn (s := S s₀ h tk) (Γ.kin D.keep) (inst_at D kx kd) (plainGet_of hg).1 (plainGet_of hg).2 hf (beq_iff_eq.mp ht) (by show (lookIn name (dictOf es n)).map _ = _; rw [lookIn_dict, hff]; rfl) hQ
end
/-! D1 -/
local macro_rules | `(tactic| walk_at "m.attr") => `(tactic| ((with_reducible refine' f_get ?Gn ?D ?kx ?kd ?F ?_ ?g ?h ?a ?v); (case Gn => assumption); (case D => walk_at "m.D"); (case kx => walk_at "m.kn"); (case kd => walk_at "m.kn"); (case F => assumption); (case g => exact rfl); (case h => exact rfl); (case a => exact rfl); (case v => first | exact rfl | assumption); intro _))
local macro_rules | `(tactic| walk_at "m.gmo") => `(tactic| ((with_reducible refine' f_meth ?Gn ?D ?kx ?kd ?F ?_ ?g ?h ?a); (case Gn => assumption); (case D => walk_at "m.D"); (case kx => walk_at "m.kn"); (case kd => walk_at "m.kn"); (case F => assumption); (case g => exact rfl); (case h => exact rfl); (case a => exact rfl)))
local macro_rules | `(tactic| walk_at "m.step") => `(tactic| first
  | ((with_reducible show wpAny _ _ (getAttr (Value.ref _) _ _) _ _ _); walk_at "m.attr")
  | ((with_reducible show wpAny _ _ (getMethod (Value.ref _) _ _) _ _ _); walk_at "m.gmo"))

section
variable {w : World} {A : Around} {G : Gh} {L : Addr} {nm : List Str} {vs vs' : List (Option Value)} {σ σ' : List (Addr × Obj)} {h : Heap} {s₀ : Shared} {tk : Nat} {env : Env}
/-- a call of a def that stores nothing of its caller's -/
theorem call0w {f : Addr} {args : List Value} {Q : Value → Shared → Prop} (D : Mem G L nm vs σ h)
    (H : ∀ R : Result → Shared → Prop, (∀ v h' tk', Keep [] h h' → (Mem G L nm vs σ h' → Q v (S s₀ h' tk')) → R (.ok (.ret v)) (S s₀ h' tk')) → codeAny (MM w) A (.call (.ref f) ⟨args, []⟩) R (S s₀ h tk)) :
    wpAny (MM w) A (call (.ref f) args) Q F0 (S s₀ h tk) := by
  refine wpAny_call (H _ fun v h' tk' kp q => ?_)
  exact q (D.grown fun b o e => kp b o e (by simp))
theorem handed_first {v : Value} (h : v = .none ∨ ∃ i t, v = .int i t) : handedIn v = true := by
  rcases h with rfl | ⟨_, _, rfl⟩ <;> rfl
end

theorem c_is_memory {w : World} {A : Around} {G : Gh} {h : Heap} {s₀ : Shared} {tk : Nat} {a dx : Addr} {o : Obj} {v : Value} {R : Result → Shared → Prop}
    (HA : Room A 5) (Γ : Gnd w G) (kp : ∀ b o, G b = some o → h.get? b = some o) (ha : h.get? a = some (instObj 143 dx)) (hd : h.get? dx = some o) (hF : Fld o "first" (some v)) (hv : v = .none ∨ ∃ i t, v = .int i t)
    (hR : ∀ h' tk', Keep [] h h' → R (.ok (.ret (.bool (!(v == .none))))) (S s₀ h' tk')) :
    codeAny (MM w) A (.call (.ref 119) ⟨[.ref a], []⟩) R (S s₀ h tk) := by
  refine enter (f := 119) (W := []) (nm := [Str.ofString "self"]) (vs := [some (.ref a)]) (binds := [(Str.ofString "self", .ref a)]) HA Γ kp rfl rfl (BindsTo.of_eq rfl) rfl rfl (by decide +kernel) ⟨rfl, trivial⟩ (fun p hp => nomatch hp) (by simp) ?_
  intro A' G' L h₁ tk₁ HA' Γ' kg D hA'
  have ga := kg _ _ ha (by simp)
  have gd := kg _ _ hd (by simp)
  have hv' := handed_first hv
  repeat walk_at "m.step"
  refine isnt_none hv ?_
  exact hR _ _ (D.kept kg)
/-! D2 -/
theorem Rep.app {a : Addr} {o o' : Obj} {σ σ' : List (Addr × Obj)} (r : Rep a o o' σ σ') : ∀ junk : List (Addr × Obj), Rep a o o' (junk ++ σ) (junk ++ σ')
  | [] => r
  | _ :: t => .tail (r.app t)
theorem Mem.drop {G : Gh} {L : Addr} {nm : List Str} {vs : List (Option Value)} {σ : List (Addr × Obj)} {h : Heap} {junk : List (Addr × Obj)} (D : Mem G L nm vs (junk ++ σ) h) : Mem G L nm vs σ h :=
  D.sub (fun _ hp => List.mem_append_right _ hp) (by have := D.nd; rw [List.map_append] at this; exact (List.nodup_append.mp this).2.1)
theorem Mem.drop2 {G : Gh} {L : Addr} {nm : List Str} {vs : List (Option Value)} {σ : List (Addr × Obj)} {h : Heap} {own junk : List (Addr × Obj)} (D : Mem G L nm vs (own ++ (junk ++ σ)) h) : Mem G L nm vs (own ++ σ) h :=
  D.sub (fun p hp => (List.mem_append.mp hp).elim (fun m => List.mem_append_left _ m) fun m => List.mem_append_right _ (List.mem_append_right _ m)) (by
    have := D.nd
    simp only [List.map_append] at this ⊢
    have h1 := List.nodup_append.mp this
    have h2 := List.nodup_append.mp h1.2.1
    exact List.nodup_append.mpr ⟨h1.1, h2.2.1, fun a ha b hb => h1.2.2 a ha b (List.mem_append_right _ hb)⟩)
local macro_rules | `(tactic| walk_at "m.mem") => `(tactic| (apply List.mem_append_right; walk_at "m.mem"))
local macro_rules | `(tactic| walk_at "m.rep") => `(tactic| (with_reducible apply Rep.app; walk_at "m.rep"))
local macro_rules | `(tactic| walk_at "m.new") => `(tactic| first
  | ((with_reducible show wpAny _ _ (newList _) _ _ _); refine' nl ?D ?_ ?z; (case D => walk_at "m.D"); (case z => (rw [sizeLine_eq]; exact Nat.le_of_ble_eq_true rfl)); intro _ _ _)
  | ((with_reducible show wpAny _ _ (newTuple _) _ _ _); refine' nt ?D ?_ ?z; (case D => walk_at "m.D"); (case z => (rw [sizeLine_eq]; exact Nat.le_of_ble_eq_true rfl)); intro _ _ _))
theorem seqIdx {j n : Nat} (h : j < n) : seqIndex? (j : Int) n = some j := by
  unfold seqIndex?
  simp; omega

section
variable {w : World} {A : Around} {G : Gh} {L : Addr} {nm : List Str} {vs vs' : List (Option Value)} {σ σ' : List (Addr × Obj)} {h : Heap} {s₀ : Shared} {tk : Nat} {env : Env} {E : Value → Shared → Prop}
theorem t_at {value slice : Expr} {l : Addr} {xs : List Value} {n : Nat} {j : Nat} {k : Int} {u : Tok} {x : Value} {Q : Value → Shared → Prop} (D : Mem G L nm vs σ h) (kn : Knows G σ l (tupOf xs.toArray n)) (hk : k = (j : Int)) (hj : j < 100) (hx : xs[j]? = some x) (hQ : Q x (S s₀ h tk))
    (hs : subscripted slice false (.ref l) (.int k u) = operate [.ref l, .int k u] (getItem (.ref l) (.int k u)) := by with_unfolding_all rfl) :
    wpAny (MM w) A (subscriptTail value slice (.ref l) (.int k u)) Q E (S s₀ h tk) :=
  t_item D kn (by omega) (by omega) (j := j) (by rw [hk]; exact seqIdx (List.getElem?_eq_some_iff.mp hx).1) hx hQ hs
end

theorem c_row_ins {w : World} {A : Around} {G : Gh} {h : Heap} {s₀ : Shared} {tk : Nat} {a : Addr} {r : Nat × List Int} {R : Result → Shared → Prop}
    (HA : Room A 5) (Γ : Gnd w G) (kp : ∀ b o, G b = some o → h.get? b = some o) (ha : RowOK h.get? a r)
    (hR : ∀ h' tk' t ys n, Keep [] h h' → IntsAre ys r.2 → h'.get? t = some (tupOf ys.toArray n) → (h.get? t = none ∨ ∀ g : Gh, (∀ b o, g b = some o → h.get? b = some o) → RowOK g a r → g t = some (tupOf ys.toArray n)) → R (.ok (.ret (.ref t))) (S s₀ h' tk')) :
    codeAny (MM w) A (.call (.ref 70) ⟨[.ref a], []⟩) R (S s₀ h tk) := by
  refine enter (f := 70) (W := []) (nm := [Str.ofString "row"]) (vs := [some (.ref a)]) (binds := [(Str.ofString "row", .ref a)]) HA Γ kp rfl rfl (BindsTo.of_eq rfl) rfl rfl (by decide +kernel) ⟨rfl, trivial⟩ (fun p hp => nomatch hp) (by simp) ?_
  intro A' G' L h₁ tk₁ HA' Γ' kg D hA'
  have le : Le h.get? G' := fun b o e => kg b o e (by simp)
  have hr := ha.mono le
  obtain ⟨x, t, u, b, t', v, more, n, ea, hm, ht⟩ := hr
  repeat walk_at "m.step"
  refine t_at D (.inl ea) (j := 0) rfl (by omega) rfl ?_ (by with_unfolding_all rfl)
  repeat walk_at "m.step"
  refine s_eq ?_
  repeat walk_at "m.step"
  refine ite_b (fun e => ?_) (fun e => ?_)
  · repeat walk_at "m.step"
    refine t_at (by walk_at "m.D") (.inl ea) (j := 3) rfl (by omega) rfl ?_ (by with_unfolding_all rfl)
    repeat walk_at "m.step"
    rename Mem _ _ _ _ _ _ => D₂
    rcases ht with ⟨_, i, ti, rfl, hns⟩ | ⟨e', _⟩
    · refine hR _ _ _ _ _ (D₂.kept kg) ?_ (D₂.get (.head _)) (.inl (D₂.newer kg (.head _) (by simp)))
      rw [hns]
      exact .cons _ _ .nil
    · exact absurd (e.symm.trans e') (by simp)
  · repeat walk_at "m.step"
    refine t_at (by walk_at "m.D") (.inl ea) (j := 3) rfl (by omega) rfl ?_ (by with_unfolding_all rfl)
    rename Mem _ _ _ _ _ _ => D₂
    rcases ht with ⟨e', _⟩ | ⟨_, ai, rfl, ys, n', eai, hi⟩
    · rw [e'] at e; exact absurd e (by decide +kernel)
    · refine hR _ _ ai ys n' (D₂.kept kg) hi (D₂.keep _ _ eai) (.inr fun g hg hrow => ?_)
      obtain ⟨x2, t2, u2, b2, t2', v2, more2, n2, ea2, _, ht2⟩ := hrow
      have e1 := le _ _ (hg _ _ ea2)
      rw [ea] at e1
      injection e1 with e1
      injection e1 with _ _ e1
      injection e1 with e1 _
      have e1 := congrArg Array.toList e1
      simp at e1
      obtain ⟨⟨rfl, _⟩, _, _, rfl, _⟩ := e1
      rcases ht2 with ⟨_, i, t, e2, _⟩ | ⟨_, ai2, e2, ys2, n3, e3, _⟩
      · cases e2
      · cases e2
        have := le _ _ (hg _ _ e3)
        rw [eai] at this
        rw [e3, this]
/-! D3 -/
def DesignOK (look : Gh) (d : Data) (aD : Addr) : Prop := ∃ dd o al ap, look aD = some (instObj 206 dd) ∧ look dd = some o ∧ Fld o "signals" (some (.ref al)) ∧ Fld o "ports" (some (.ref ap)) ∧
    (∃ ss n, look al = some (listOf (ss.map Value.ref).toArray n) ∧ SigsOK look ss d.sigs) ∧ (∃ ps n, look ap = some (listOf (ps.map Value.ref).toArray n) ∧ All2 (PortOK look) ps d.ports)
theorem DesignOK.mono {look look' : Gh} {d : Data} {aD : Addr} (k : Le look look') (x : DesignOK look d aD) : DesignOK look' d aD :=
  let ⟨dd, o, al, ap, e1, e2, f1, f2, ⟨ss, n, e3, s⟩, ps, n', e4, p⟩ := x; ⟨dd, o, al, ap, k _ _ e1, k _ _ e2, f1, f2, ⟨ss, n, k _ _ e3, s.mono k⟩, ps, n', k _ _ e4, p.mono fun _ _ => PortOK.mono k⟩

section
variable {w : World} {A : Around} {G : Gh} {L : Addr} {nm : List Str} {vs vs' : List (Option Value)} {σ σ' : List (Addr × Obj)} {h : Heap} {s₀ : Shared} {tk : Nat} {env : Env}
theorem w_row_ins {a : Addr} {r : Nat × List Int} {Q : Value → Shared → Prop} (HA : Room A 5) (Γ : Gnd w G) (D : Mem G L nm vs σ h) (kr : RowOK G a r)
    (hQ : ∀ t junk h' tk' ys n, Mem G L nm vs (junk ++ σ) h' → Knows G (junk ++ σ) t (tupOf ys.toArray n) → IntsAre ys r.2 → Q (.ref t) (S s₀ h' tk')) :
    wpAny (MM w) A (call (.ref 70) [.ref a]) Q F0 (S s₀ h tk) := by
  refine wpAny_call (c_row_ins HA Γ D.keep (kr.mono D.keep) fun h' tk' t ys n kp hi ht hn => ?_)
  have k : ∀ b o, h.get? b = some o → h'.get? b = some o := fun b o e => kp b o e (by simp)
  rcases hn with hn | hn
  · exact hQ t [(t, _)] h' tk' ys n (D.fresh k ht hn) (.inr (.head _)) hi
  · exact hQ t [] h' tk' ys n (D.grown k) (.inl (hn G D.keep kr)) hi
theorem w_is_memory {a dx : Addr} {o : Obj} {v : Value} {Q : Value → Shared → Prop} (HA : Room A 5) (Γ : Gnd w G) (D : Mem G L nm vs σ h) (ha : Knows G σ a (instObj 143 dx)) (hd : Knows G σ dx o) (hF : Fld o "first" (some v)) (hv : v = .none ∨ ∃ i t, v = .int i t)
    (hQ : ∀ h' tk', Mem G L nm vs σ h' → Q (.bool (!(v == .none))) (S s₀ h' tk')) : wpAny (MM w) A (call (.ref 119) [.ref a]) Q F0 (S s₀ h tk) :=
  wpAny_call (c_is_memory HA Γ D.keep (D.knows ha) (D.knows hd) hF hv fun h' tk' kp => hQ h' tk' (D.grown fun b o e => kp b o e (by simp)))
end

theorem c_taken {w : World} {A : Around} {G : Gh} {h : Heap} {s₀ : Shared} {tk : Nat} {a : Addr} {r : Nat × List Int} {R : Result → Shared → Prop}
    (HA : Room A 5) (Γ : Gnd w G) (kp : ∀ b o, G b = some o → h.get? b = some o) (ha : RowOK h.get? a r) (hz : r.2.length ≤ 2 ^ 20)
    (hR : ∀ h' tk' t ys n, Keep [] h h' → IntsAre ys r.2 → h'.get? t = some (listOf ys.toArray n) → h.get? t = none → R (.ok (.ret (.ref t))) (S s₀ h' tk')) :
    codeAny (MM w) A (.call (.ref 327) ⟨[.ref a], []⟩) R (S s₀ h tk) := by
  refine enter (f := 327) (W := []) (nm := [Str.ofString "row"]) (vs := [some (.ref a)]) (binds := [(Str.ofString "row", .ref a)]) HA Γ kp rfl rfl (BindsTo.of_eq rfl) rfl rfl (by decide +kernel) ⟨rfl, trivial⟩ (fun p hp => nomatch hp) (by simp) ?_
  intro A' G' L h₁ tk₁ HA' Γ' kg D hA'
  have le : Le h.get? G' := fun b o e => kg b o e (by simp)
  have hr := ha.mono le
  obtain ⟨x, t, u, b, t', v, more, n, ea, hm, ht⟩ := hr
  repeat walk_at "m.step"
  refine t_at D (.inl ea) (j := 0) rfl (by omega) rfl ?_ (by with_unfolding_all rfl)
  repeat walk_at "m.step"
  refine s_eq ?_
  repeat walk_at "m.step"
  refine ite_b (fun e => ?_) (fun e => ?_)
  · repeat walk_at "m.step"
    refine t_at (by walk_at "m.D") (.inl ea) (j := 3) rfl (by omega) rfl ?_ (by with_unfolding_all rfl)
    repeat walk_at "m.step"
    rename Mem _ _ _ _ _ _ => D₂
    rcases ht with ⟨_, i, ti, rfl, hns⟩ | ⟨e', _⟩
    · refine hR _ _ _ [_] 0 (D₂.kept kg) ?_ (D₂.get (.head _)) (D₂.newer kg (.head _) (by simp))
      rw [hns]
      exact .cons _ _ .nil
    · exact absurd (e.symm.trans e') (by simp)
  · repeat walk_at "m.step"
    refine t_at (by walk_at "m.D") (.inl ea) (j := 3) rfl (by omega) rfl ?_ (by with_unfolding_all rfl)
    repeat walk_at "m.step"
    rename Mem _ _ _ _ _ _ => D₂
    rcases ht with ⟨e', _⟩ | ⟨_, ai, rfl, ys, n', eai, hi⟩
    · rw [e'] at e; exact absurd e (by decide +kernel)
    · refine cp_list D₂ (.inr rfl) (.inl eai) (by have := hi.length; omega) fun l n2 h3 D3 => ?_
      exact hR _ _ l ys n2 (D3.kept kg) hi (D3.get (.head _)) (D3.newer kg (.head _) (by simp))

theorem c_plain {w : World} {A : Around} {G : Gh} {h : Heap} {s₀ : Shared} {tk : Nat} {aD : Addr} {d : Data} {k : Nat} {t : Tok} {p : Bool} {R : Result → Shared → Prop}
    (HA : Room A 5) (Γ : Gnd w G) (kp : ∀ b o, G b = some o → h.get? b = some o) (hd : DesignOK h.get? d aD) (hk : d.sigs[k]? = some p) (hm : k < 100)
    (hR : ∀ h' tk', Keep [] h h' → R (.ok (.ret (.bool p))) (S s₀ h' tk')) :
    codeAny (MM w) A (.call (.ref 320) ⟨[.ref aD, .int k t], []⟩) R (S s₀ h tk) := by
  refine enter (f := 320) (W := []) (nm := [Str.ofString "design", Str.ofString "key"]) (vs := [some (.ref aD), some (.int k t)]) (binds := [(Str.ofString "design", .ref aD), (Str.ofString "key", .int k t)]) HA Γ kp rfl rfl (BindsTo.of_eq rfl) rfl rfl (by decide +kernel) ⟨rfl, rfl, trivial⟩ (fun p hp => nomatch hp) (by simp) ?_
  intro A' G' L h₁ tk₁ HA' Γ' kg D hA'
  have le : Le h.get? G' := fun b o e => kg b o e (by simp)
  obtain ⟨dd, o, al, ap, e1, e2, f1, f2, ⟨ss, n, e3, sk⟩, _⟩ := hd.mono le
  obtain ⟨hl, hs⟩ := sk
  obtain ⟨a, hak⟩ : ∃ a, ss[k]? = some a := ⟨ss[k]'(hl ▸ (List.getElem?_eq_some_iff.mp hk).1), by simp [hl ▸ (List.getElem?_eq_some_iff.mp hk).1]⟩
  obtain ⟨dx, os, kd, t1, t2, v, g1, g2, q1, q2, q3, q4, hv, hp⟩ := hs k a p hak hk
  have hak' : (ss.map Value.ref)[(k : Int).toNat]? = some (.ref a) := by simp [hak]
  have hv' := handed_first hv
  repeat walk_at "m.step"
  refine l_item (by walk_at "m.D") (.inl e3) (by omega) (by omega) hak' ?_ (by with_unfolding_all rfl)
  repeat walk_at "m.step"
  refine s_eq ?_
  repeat walk_at "m.step"
  refine ite_b (fun e => ?_) (fun e => ?_)
  · repeat walk_at "m.step"
    refine l_item (by walk_at "m.D") (.inl e3) (by omega) (by omega) hak' ?_ (by with_unfolding_all rfl)
    repeat walk_at "m.step"
    refine isis_none hv ?_
    repeat walk_at "m.step"
    rename Mem _ _ _ _ _ _ => D₂
    have : p = (v == Value.none) := by rw [hp]; show ((kd == kInteger) && _) = _; rw [show (kd == kInteger) = true from e]; rfl
    rw [← this]
    exact hR _ _ (D₂.kept kg)
  · repeat walk_at "m.step"
    rename Mem _ _ _ _ _ _ => D₂
    have : p = false := by rw [hp]; show ((kd == kInteger) && _) = _; rw [show (kd == kInteger) = false from e]; rfl
    rw [show (kd == Str.ofString "integer") = false from e, ← this]
    exact hR _ _ (D₂.kept kg)

section
variable {w : World} {A : Around} {G : Gh} {L : Addr} {nm : List Str} {vs vs' : List (Option Value)} {σ σ' : List (Addr × Obj)} {h : Heap} {s₀ : Shared} {tk : Nat} {env : Env}
theorem w_taken {a : Addr} {r : Nat × List Int} {Q : Value → Shared → Prop} (HA : Room A 5) (Γ : Gnd w G) (D : Mem G L nm vs σ h) (kr : RowOK G a r) (hz : r.2.length ≤ 2 ^ 20)
    (hQ : ∀ t h' tk' ys n, Mem G L nm vs ((t, listOf ys.toArray n) :: σ) h' → IntsAre ys r.2 → Q (.ref t) (S s₀ h' tk')) :
    wpAny (MM w) A (call (.ref 327) [.ref a]) Q F0 (S s₀ h tk) :=
  wpAny_call (c_taken HA Γ D.keep (kr.mono D.keep) hz fun h' tk' t ys n kp hi ht hn => hQ t h' tk' ys n (D.fresh (fun b o e => kp b o e (by simp)) ht hn) hi)
theorem w_plain {aD : Addr} {d : Data} {k : Nat} {t : Tok} {p : Bool} {Q : Value → Shared → Prop} (HA : Room A 5) (Γ : Gnd w G) (D : Mem G L nm vs σ h) (hd : DesignOK G d aD) (hk : d.sigs[k]? = some p) (hm : k < 100)
    (hQ : ∀ h' tk', Mem G L nm vs σ h' → Q (.bool p) (S s₀ h' tk')) : wpAny (MM w) A (call (.ref 320) [.ref aD, .int k t]) Q F0 (S s₀ h tk) :=
  wpAny_call (c_plain HA Γ D.keep (hd.mono D.keep) hk hm fun h' tk' kp => hQ h' tk' (D.grown fun b o e => kp b o e (by simp)))
end
/-! P0 -/
theorem valueAt_append {kvs : List (Int × Value)} {k : Int} {r : List (Int × Value)} : valueAt (kvs ++ r) k = (valueAt kvs k).or (valueAt r k) := by
  unfold valueAt
  rw [List.find?_append]
  cases List.find? (fun kv => decide (kv.1 = k)) kvs <;> simp
theorem valueAt_stored {kvs : List (Int × Value)} {k k' : Int} {v : Value} : valueAt (stored kvs k v) k' = if k' = k then some v else valueAt kvs k' := by
  unfold stored
  by_cases h : kvs.any (fun kv => decide (kv.1 = k)) = true
  · rw [if_pos h]
    induction kvs with
    | nil => simp at h
    | cons a r ih =>
      by_cases e : a.1 = k
      · by_cases e' : k' = k
        · unfold valueAt
          simp [e, e']
        · have e2 : ¬ a.1 = k' := fun q => e' (q.symm.trans e)
          have e3 : ¬ k = k' := fun q => e' q.symm
          unfold valueAt
          simp only [List.map_cons, List.find?_cons, e, if_true, e3, decide_false, if_neg e']
          by_cases hr : r.any (fun kv => decide (kv.1 = k)) = true
          · have := ih hr
            unfold valueAt at this
            rw [this, if_neg e']
          · have : r.map (fun kv => if kv.1 = k then (kv.1, v) else kv) = r := by
              refine (List.map_congr_left (g := id) fun x hx => ?_).trans (List.map_id _)
              rw [if_neg]
              · rfl
              · intro q
                exact hr (List.any_eq_true.mpr ⟨x, hx, by simp [q]⟩)
            rw [this]
      · have hr : r.any (fun kv => decide (kv.1 = k)) = true := by simpa [e] using h
        have := ih hr
        by_cases e4 : a.1 = k'
        · have e5 : ¬ k' = k := fun q => e (e4.trans q)
          unfold valueAt
          simp [e4, e5]
        · unfold valueAt
          simp only [List.map_cons, List.find?_cons, if_neg e, e4, decide_false]
          exact this
  · rw [if_neg h, valueAt_append]
    by_cases e : k' = k
    · subst e
      have : valueAt kvs k' = none := by
        unfold valueAt
        rw [Option.map_eq_none_iff, List.find?_eq_none]
        intro x hx q
        exact h (List.any_eq_true.mpr ⟨x, hx, q⟩)
      rw [this, if_pos rfl]
      unfold valueAt
      simp
    · have : ¬ k = k' := fun q => e q.symm
      rw [if_neg e]
      unfold valueAt
      simp [this]
theorem valueAt_nil {k : Int} : valueAt ([] : List (Int × Value)) k = none := rfl
theorem valueAt_isSome {kvs : List (Int × Value)} {k : Int} : (valueAt kvs k).isSome = true ↔ k ∈ kvs.map (·.1) := by
  unfold valueAt
  rw [Option.isSome_map, List.find?_isSome]
  simp
theorem stored_le {kvs : List (Int × Value)} {k : Int} {v : Value} {n : Nat} (h : kvs.length ≤ n) : (stored kvs k v).length ≤ n + 1 := Nat.le_trans (stored_length_le _ _ _) (Nat.succ_le_succ h)
theorem stored_in {kvs : List (Int × Value)} {k : Int} {v : Value} (h : (valueAt kvs k).isSome = true) : (stored kvs k v).length = kvs.length := by
  unfold stored
  rw [if_pos, List.length_map]
  obtain ⟨x, hx, e⟩ := List.mem_map.mp (valueAt_isSome.mp h)
  exact List.any_eq_true.mpr ⟨x, hx, by simp [e]⟩
/-! D4 -/
local macro_rules | `(tactic| walk_at "m.step") => `(tactic| first
  | ((with_reducible show wpAny _ _ (eval (Expr.Dict [] [] _) _) _ _ _); refine' d_new ?Gn ?D ?_; (case Gn => assumption); (case D => walk_at "m.D"); intro _ _ _ _ _ _)
  | ((with_reducible show wpAny _ _ (assignInOrder _ _) _ _ _); first | refine assignInOrder_cons ?_ | refine assignInOrder_nil ?_)
  | ((with_reducible show wpAny _ _ (assign (Expr.Name _ _) _ _) _ _ _); refine wpAny_assign_Name ?_)
  | ((with_reducible show wpAny _ _ (getMethod (Value.ref _) _ _) _ _ _); walk_at "m.gmo"))
/-- the newest memory -/
local macro_rules | `(tactic| walk_at "m.idset") => `(tactic| ((refine' id_set ?D ?m ?I ?z ?_; (case D => walk_at "m.D"); (case m => walk_at "m.mem"); (case I => assumption); (case z => omega)); intro _ _ _ _ _; walk_at "m.up"))

def NetlistOK (look : Gh) (d : Data) (aN : Addr) : Prop := ∃ dn o ac, look aN = some (instObj 290 dn) ∧ look dn = some o ∧ Fld o "cells" (some (.ref ac)) ∧ (∃ cs n, look ac = some (listOf (cs.map Value.ref).toArray n) ∧ All2 (CellOK look) cs d.cells)
theorem NetlistOK.mono {look look' : Gh} {d : Data} {aN : Addr} (k : Le look look') (x : NetlistOK look d aN) : NetlistOK look' d aN :=
  let ⟨dn, o, ac, e1, e2, f, cs, n, e3, c⟩ := x; ⟨dn, o, ac, k _ _ e1, k _ _ e2, f, cs, n, k _ _ e3, c.mono fun _ _ => CellOK.mono k⟩

/-- the table of the cells' ins, of the first i cells -/
def CTab (g : Gh) (d : Data) (i : Nat) (kvs : List (Int × Value)) : Prop :=
  kvs.length ≤ i ∧ (∀ n v, valueAt kvs n = some v → ∃ j c ai, j < i ∧ d.cells[j]? = some c ∧ c.1 = n ∧ v = .ref ai ∧ IntTup g ai c.2) ∧ ∀ (j : Nat) (c : Int × List Int), j < i → d.cells[j]? = some c → (valueAt kvs c.1).isSome = true
theorem CTab.nil {g : Gh} {d : Data} : CTab g d 0 [] := ⟨Nat.le_refl _, (fun n v h => (by cases h)), fun j c h => absurd h (Nat.not_lt_zero _)⟩
theorem CTab.more {g : Gh} {d : Data} {i : Nat} {kvs : List (Int × Value)} {c : Int × List Int} {ai : Addr} (T : CTab g d i kvs) (hc : d.cells[i]? = some c) (it : IntTup g ai c.2) : CTab g d (i + 1) (stored kvs c.1 (.ref ai)) := by
  refine ⟨stored_le T.1, fun n v e => ?_, fun j c' hj e => ?_⟩
  · rw [valueAt_stored] at e
    split at e
    · rename_i q
      cases e
      exact ⟨i, c, ai, Nat.lt_succ_self _, hc, q.symm, rfl, it⟩
    · obtain ⟨j, c', ai', hj, r⟩ := T.2.1 n v e
      exact ⟨j, c', ai', Nat.lt_succ_of_lt hj, r⟩
  · rw [valueAt_stored]
    split
    · rfl
    · rename_i q
      rcases Nat.lt_succ_iff_lt_or_eq.mp hj with h | rfl
      · exact T.2.2 j c' h e
      · rw [hc] at e; cases e; exact absurd rfl q

inductive WCi1 (G' : Gh) (aN : Addr) (w : World) (G : Gh) (d : Data) (i : Nat) : Gh → List (Option Value) → List (Addr × Obj) → Prop
  | mk (f : Addr) (o : Obj) (kvs : List (Int × Value)) (o1 o2 o3 o4 : Option Value) (h4 : ID w f o kvs) (h5 : CTab G d i kvs) : WCi1 G' aN w G d i G' [some (.ref aN), some (.ref f), o1, o2, o3, o4] [(f, o)]
theorem c_cell_ins {w : World} {A : Around} {G : Gh} {h : Heap} {s₀ : Shared} {tk : Nat} {aN : Addr} {d : Data} {R : Result → Shared → Prop}
    (HA : Room A 5) (Γ : Gnd w G) (kp : ∀ b o, G b = some o → h.get? b = some o) (hd : NetlistOK G d aN) (hz : d.cells.length ≤ 1000)
    (hR : ∀ h' tk' f o kvs, Keep [] h h' → h'.get? f = some o → h.get? f = none → ID w f o kvs → CTab G d d.cells.length kvs → R (.ok (.ret (.ref f))) (S s₀ h' tk')) :
    codeAny (MM w) A (.call (.ref 63) ⟨[.ref aN], []⟩) R (S s₀ h tk) := by
  refine enter (f := 63) (W := []) (nm := [Str.ofString "netlist", Str.ofString "found", Str.ofString "kind", Str.ofString "out", Str.ofString "ins", Str.ofString "param"]) (vs := [some (.ref aN), none, none, none, none, none]) (binds := [(Str.ofString "netlist", .ref aN)]) HA Γ kp rfl rfl (BindsTo.of_eq rfl) rfl rfl (by decide +kernel) ⟨rfl, trivial⟩ (fun p hp => nomatch hp) (by simp) ?_
  intro A' G' L h₁ tk₁ HA' Γ' kg D hA'
  have le : Le G G' := fun b o e => kg b o (kp b o e) (by simp)
  have hd0 := hd
  obtain ⟨dn, o, ac, e1, e2, f1, cs, n, e3, hc⟩ := hd
  have e1' := le _ _ e1
  have e2' := le _ _ e2
  have e3' := le _ _ e3
  repeat walk_at "m.step"
  refine r_iter_listP (nm := [Str.ofString "netlist", Str.ofString "found", Str.ofString "kind", Str.ofString "out", Str.ofString "ins", Str.ofString "param"]) (xs := cs.map Value.ref) HA'.hd (by walk_at "m.D")
    (WCi1 G' aN w G d) (fun i g vs σ j => by cases j; exact .inl e3') ⟨_, _, [], _, _, _, _, by assumption, CTab.nil⟩ ?_ ?_
  · rintro R' i _ _ _ h tk v I oI hv ⟨f, o, kvs, o1, o2, o3, o4, hI, hT⟩ D
    rw [List.getElem?_map] at hv
    obtain ⟨ca, hca, rfl⟩ := Option.map_eq_some_iff.mp hv
    obtain ⟨c, hci, x, t, u, ai, n', ec, it⟩ := hc.get hca
    have ec' := le _ _ ec
    refine r_untuple (items := [.str x t, .int c.1 u, .ref ai, .none]) HA'.hd D (.inl ec') rfl rfl fun h' D' => ?_
    have hi : i < d.cells.length := (List.getElem?_eq_some_iff.mp hci).1
    have := hT.1
    repeat walk_at "m.step"
    walk_at "m.idset"
    repeat walk_at "m.step"
    rename Mem _ _ _ _ _ _ => D₂
    exact Turn.next (own := [(I, oI)]) D₂ ⟨f, _, _, _, _, _, _, by assumption, hT.more hci it⟩
  · rintro _ _ _ h tk ⟨f, o, kvs, o1, o2, o3, o4, hI, hT⟩ D
    repeat walk_at "m.step"
    rename Mem _ _ _ _ _ _ => D₂
    have hl : (cs.map Value.ref).length = d.cells.length := by rw [List.length_map]; exact hc.1
    rw [hl] at hT
    exact hR _ _ f o kvs (D₂.kept kg) (D₂.get (.head _)) (D₂.newer kg (.head _) (by simp)) hI hT
/-! D5 -/
local macro_rules | `(tactic| walk_at "m.iditem") => `(tactic| ((refine' id_item ?D ?kn ?I ?hv ?_ ?hs; (case D => walk_at "m.D"); (case kn => walk_at "m.kn"); (case I => assumption); (case hv => assumption); (case hs => with_unfolding_all rfl)); intro _))

theorem tt_call {w : World} {A : Around} {env : Env} {s : Shared} {f : Expr} {a : List Expr} {kw : List Keyword} {pos : Pos} {Q : Bool → Shared → Prop} {E : Value → Shared → Prop} (h : wpAny (MM w) A (eval (.Call f a kw pos) env) (fun v s₁ => wpAny (MM w) A (truthy v) Q E s₁) E s) :
    wpAny (MM w) A (isTrue (.Call f a kw pos) env (eval (.Call f a kw pos) env)) Q E s := isTrue_plain h
theorem tt_name {w : World} {A : Around} {env : Env} {s : Shared} {x : Str} {pos : Pos} {Q : Bool → Shared → Prop} {E : Value → Shared → Prop} (h : wpAny (MM w) A (eval (.Name x pos) env) (fun v s₁ => wpAny (MM w) A (truthy v) Q E s₁) E s) :
    wpAny (MM w) A (isTrue (.Name x pos) env (eval (.Name x pos) env)) Q E s := isTrue_plain h
local macro_rules | `(tactic| walk_at "m.cw") => `(tactic| first
  | ((with_reducible refine' cw_r0 ?Gn ?D ?hk ?_); (case Gn => assumption); (case D => walk_at "m.D"); (case hk => exact rfl))
  | ((with_reducible refine' cw_r ?Gn ?hk ?_ ?he ?hp); (case Gn => assumption); (case hk => exact rfl); (case he => exact rfl); (case hp => exact rfl)))
local macro_rules | `(tactic| walk_at "m.step") => `(tactic| first
  | with_reducible refine tt_call ?_
  | with_reducible refine tt_name ?_
  | ((with_reducible refine' keep_and ?D ?_); (case D => walk_at "m.D")))
local macro_rules | `(tactic| walk_at "m.call") => `(tactic| first
  | ((with_reducible refine' w_is_memory ?HA ?Gn ?D ?a ?d ?F ?v ?_); (case HA => first | assumption | exact Room.le (by assumption) (by omega)); (case Gn => assumption); (case D => walk_at "m.D"); (case a => walk_at "m.kn"); (case d => walk_at "m.kn"); (case F => assumption); (case v => assumption); intro _ _ _))
def WiresOK (w : World) (look : Gh) (d : Data) (aW : Addr) : Prop := ∃ dw o an ad, look aW = some (instObj 52 dw) ∧ look dw = some o ∧ Fld o "nets" (some (.ref an)) ∧ Fld o "drivers" (some (.ref ad)) ∧ NetsOK w look an d.nets ∧ DrvOK w look ad d.roots
theorem WiresOK.mono {w : World} {look look' : Gh} {d : Data} {aW : Addr} (k : Le look look') (x : WiresOK w look d aW) : WiresOK w look' d aW :=
  let ⟨dw, o, an, ad, e1, e2, f1, f2, n, r⟩ := x; ⟨dw, o, an, ad, k _ _ e1, k _ _ e2, f1, f2, n.mono k, r.mono k⟩

def OTab (P : Nat → Int → Prop) (kvs : List (Int × Value)) : Prop :=
  (∀ n v, valueAt kvs n = some v → ∃ k t, P k n ∧ v = .int (k : Nat) t) ∧ ∀ k n, P k n → (valueAt kvs n).isSome = true
theorem OTab.nil {P : Nat → Int → Prop} (h : ∀ k n, ¬ P k n) : OTab P [] := ⟨(fun n v e => (by cases e)), fun k n p => absurd p (h k n)⟩
theorem OTab.iff {P P' : Nat → Int → Prop} {kvs : List (Int × Value)} (T : OTab P kvs) (h : ∀ k n, P k n ↔ P' k n) : OTab P' kvs := by
  have : P = P' := funext fun k => funext fun n => propext (h k n)
  exact this ▸ T
theorem OTab.more {P : Nat → Int → Prop} {kvs : List (Int × Value)} {i : Nat} {x : Int} {t : Tok} (T : OTab P kvs) : OTab (fun k n => P k n ∨ (k = i ∧ n = x)) (stored kvs x (.int i t)) := by
  refine ⟨fun n v e => ?_, fun k n p => ?_⟩
  · rw [valueAt_stored] at e
    split at e
    · rename_i q
      cases e
      exact ⟨i, t, .inr ⟨rfl, q⟩, rfl⟩
    · obtain ⟨k, t', p, e'⟩ := T.1 n v e
      exact ⟨k, t', .inl p, e'⟩
  · rw [valueAt_stored]
    split
    · rfl
    · rename_i q
      rcases p with p | ⟨rfl, rfl⟩
      · exact T.2 k n p
      · exact absurd rfl q

/-- the nets of the plain integers below i -/
def Own (d : Data) (i : Nat) (k : Nat) (n : Int) : Prop := k < i ∧ d.sigs[k]? = some true ∧ ∃ ns, d.nets[k]? = some ns ∧ n ∈ ns
theorem mem_take_succ {α : Type} {xs : List α} {j : Nat} {x n : α} (h : xs[j]? = some x) : n ∈ xs.take (j + 1) ↔ n ∈ xs.take j ∨ n = x := by
  rw [List.take_add_one, h]
  simp

section
variable {w : World} {A : Around} {G : Gh} {L : Addr} {nm : List Str} {vs vs' : List (Option Value)} {σ σ' : List (Addr × Obj)} {h : Heap} {s₀ : Shared} {tk : Nat} {env : Env}
/-- signal.kind == 'integer' and not signal.is_memory() -/
theorem test_plain {k : Nat} {p : Bool} {a : Addr} {q1 q2 q3 q4 q5 q6 q7 q8 q9 : Pos} {pl : Sem Bool} {Q : Bool → Shared → Prop} (HA : Room A 5) (Γ : Gnd w G) (D : Mem G env.locals nm vs σ h) (hx : At nm vs "signal" (.ref a)) (hs : SigOK G k p a)
    (hQ : ∀ h' tk', Mem G env.locals nm vs σ h' → Q p (S s₀ h' tk')) 
    (he : eval (.Call (.Attribute (.Name "signal" q5) "is_memory" q6) [] [] q7) env = (do
      let ov ← eval (.Name "signal" q5) env
      standAt q6.atName
      let (f, first) ← holding [ov] (getMethod ov "is_memory" pl)
      callWith q7 f first (backTo q7 (starEach [] env)) []) := by rfl)
    (hk : env.scope.kind = .function := by rfl) (hx1 : env.kindOf "signal" = some .local := by rfl) :
    wpAny (MM w) A (isTrue (.BoolOp .And [.Compare (.Attribute (.Name "signal" q1) "kind" q2) [.Eq] [.Constant (.str "integer") 0 q3] q4, .UnaryOp .Not (.Call (.Attribute (.Name "signal" q5) "is_memory" q6) [] [] q7) q8] q9) env
      (eval (.BoolOp .And [.Compare (.Attribute (.Name "signal" q1) "kind" q2) [.Eq] [.Constant (.str "integer") 0 q3] q4, .UnaryOp .Not (.Call (.Attribute (.Name "signal" q5) "is_memory" q6) [] [] q7) q8] q9) env)) Q F0 (S s₀ h tk) := by
  obtain ⟨dx, os, kd, t1, t2, v, w1, w2, y1, y2, y3, y4, hv, hpe⟩ := hs
  repeat walk_at "m.step"
  refine ld D hx ?_ hk hx1
  repeat walk_at "m.step"
  refine s_eq ?_
  repeat walk_at "m.step"
  refine ite_b (fun e => ?_) (fun e => ?_)
  · repeat walk_at "m.step"
    refine MethodCall_ ?_ he
    refine ld (by walk_at "m.D") hx ?_ hk hx1
    repeat walk_at "m.step"
    rename Mem _ _ _ _ _ _ => D₂
    have : p = (!!(v == Value.none)) := by rw [hpe]; show ((kd == kInteger) && _) = _; rw [show (kd == kInteger) = true from e]; simp
    rw [this] at hQ
    refine ite_b (fun e => ?_) (fun e => ?_)
    · rw [e] at hQ
      repeat walk_at "m.step"
      exact hQ _ _ D₂
    · rw [e] at hQ
      exact hQ _ _ D₂
  · repeat walk_at "m.step"
    have : p = false := by rw [hpe]; show ((kd == kInteger) && _) = _; rw [show (kd == kInteger) = false from e]; rfl
    rw [this] at hQ
    exact hQ _ _ D
end

local macro_rules | `(tactic| walk_at "m.step") => `(tactic| ((with_reducible refine' test_plain ?HA ?Gn ?D ?ax ?sig ?_ ?he ?hk1 ?hx1); (case HA => first | assumption | exact Room.le (by assumption) (by omega)); (case Gn => assumption); (case D => walk_at "m.D"); (case ax => walk_at "m.at"); (case sig => assumption); (case he => exact rfl); (case hk1 => exact rfl); (case hx1 => exact rfl); intro _ _ _))
inductive WIn1 (G' : Gh) (aW : Addr) (aD : Addr) (w : World) (d : Data) (i : Nat) : Gh → List (Option Value) → List (Addr × Obj) → Prop
  | mk (f : Addr) (o : Obj) (kvs : List (Int × Value)) (o1 o2 : Option Value) (h4 : ID w f o kvs) (h5 : OTab (Own d i) kvs) (h6 : kvs.length ≤ 4 * i) : WIn1 G' aW aD w d i G' [some (.ref aW), some (.ref aD), some (.ref f), o1, o2] [(f, o)]
inductive WIn2 (G' : Gh) (aW : Addr) (aD : Addr) (a : Addr) (I : Addr) (oI : Obj) (w : World) (d : Data) (i : Nat) (ns : List Int) (j : Nat) : Gh → List (Option Value) → List (Addr × Obj) → Prop
  | mk (f : Addr) (o : Obj) (kvs : List (Int × Value)) (o2 : Option Value) (h4 : ID w f o kvs) (h5 : OTab (fun k n => Own d i k n ∨ (k = i ∧ n ∈ ns.take j)) kvs) (h6 : kvs.length ≤ 4 * i + j) : WIn2 G' aW aD a I oI w d i ns j G' [some (.ref aW), some (.ref aD), some (.ref f), some (.ref a), o2] [(I, oI), (f, o)]
theorem c_integer_nets {w : World} {A : Around} {G : Gh} {h : Heap} {s₀ : Shared} {tk : Nat} {aW aD : Addr} {d : Data} {R : Result → Shared → Prop}
    (HA : Room A 12) (Γ : Gnd w G) (kp : ∀ b o, G b = some o → h.get? b = some o) (hw : WiresOK w G d aW) (hd : DesignOK G d aD) (gd : Good d)
    (hR : ∀ h' tk' f o kvs, Keep [] h h' → h'.get? f = some o → h.get? f = none → ID w f o kvs → OTab (Own d d.sigs.length) kvs → R (.ok (.ret (.ref f))) (S s₀ h' tk')) :
    codeAny (MM w) A (.call (.ref 77) ⟨[.ref aW, .ref aD], []⟩) R (S s₀ h tk) := by
  refine enter (f := 77) (W := []) (nm := [Str.ofString "wires", Str.ofString "design", Str.ofString "keys", Str.ofString "signal", Str.ofString "net"]) (vs := [some (.ref aW), some (.ref aD), none, none, none]) (binds := [(Str.ofString "wires", .ref aW), (Str.ofString "design", .ref aD)]) HA Γ kp rfl rfl (BindsTo.of_eq rfl) rfl rfl (by decide +kernel) ⟨rfl, rfl, trivial⟩ (fun p hp => nomatch hp) (by simp) ?_
  intro A' G' L h₁ tk₁ HA' Γ' kg D hA'
  have le : Le G G' := fun b o e => kg b o (kp b o e) (by simp)
  obtain ⟨dd, o, al, ap, e1, e2, f1, f2, ⟨ss, n, e3, sk⟩, _⟩ := hd.mono le
  obtain ⟨dw, ow, an, ad, g1, g2, q1, q2, ⟨on, nvs, g3, hI, hnl, hn⟩, _⟩ := hw.mono le
  repeat walk_at "m.step"
  refine r_iter_listP (nm := [Str.ofString "wires", Str.ofString "design", Str.ofString "keys", Str.ofString "signal", Str.ofString "net"]) (xs := ss.map Value.ref) HA'.hd (by walk_at "m.D")
    (WIn1 G' aW aD w d) (fun i g vs σ j => by cases j; exact .inl e3)
    ⟨_, _, [], _, _, by assumption, .nil fun k n p => absurd p.1 (Nat.not_lt_zero _), Nat.le_refl _⟩ ?_ ?_
  · rintro R' i G' _ _ h tk v I oI hv ⟨f, o, kvs, o1, o2, hIf, hT, hlen⟩ D
    rw [List.getElem?_map] at hv
    obtain ⟨a, ha, rfl⟩ := Option.map_eq_some_iff.mp hv
    have hil : i < d.sigs.length := sk.1 ▸ (List.getElem?_eq_some_iff.mp ha).1
    obtain ⟨p, hp⟩ : ∃ p, d.sigs[i]? = some p := ⟨d.sigs[i], by simp [hil]⟩
    obtain ⟨ns, hns⟩ : ∃ ns, d.nets[i]? = some ns := ⟨d.nets[i]'(gd.nm ▸ hil), by simp [gd.nm ▸ hil]⟩
    obtain ⟨dx, os, kd, t1, t2, v, w1, w2, y1, y2, y3, y4, hv, hpe⟩ := sk.2 i a p ha hp
    obtain ⟨l, hl, ys, nl, gl, hys⟩ := hn i ns hns
    have n4 := gd.n4 ns (List.mem_of_getElem? hns)
    have m7 := gd.m7
    have hyl := hys.length
    have hsig : SigOK _ i p a := ⟨dx, os, kd, t1, t2, v, w1, w2, y1, y2, y3, y4, hv, hpe⟩
    repeat walk_at "m.step"
    have skip : p = false → ∀ D', D' = kvs → OTab (Own d (i + 1)) D' := fun e D' e' => by
      subst e'
      refine hT.iff fun k n => ⟨fun z => ⟨Nat.lt_succ_of_lt z.1, z.2⟩, fun z => ⟨?_, z.2⟩⟩
      rcases Nat.lt_succ_iff_lt_or_eq.mp z.1 with h | rfl
      · exact h
      · have := z.2.1
        rw [hp, e] at this; cases this
    refine ite_b (fun e => ?_) (fun e => ?_)
    · repeat walk_at "m.step"
      walk_at "m.iditem"
      refine r_iter_listP (nm := [Str.ofString "wires", Str.ofString "design", Str.ofString "keys", Str.ofString "signal", Str.ofString "net"]) (xs := ys) HA'.hd (by walk_at "m.D")
        (WIn2 G' aW aD a I oI w d i ns) (fun i g vs σ j => by cases j; exact .inl gl)
        ⟨f, o, kvs, _, hIf, hT.iff fun k n => by simp, by omega⟩ ?_ ?_
      · rintro R' j _ _ _ h tk v I2 oI2 hv ⟨f, o, kvs, o2, hIf, hT, hlen⟩ D
        obtain ⟨x, tx, rfl, hx⟩ := hys.at j v hv
        have hj := (List.getElem?_eq_some_iff.mp hv).1
        repeat walk_at "m.step"
        walk_at "m.idset"
        repeat walk_at "m.step"
        rename Mem _ _ _ _ _ _ => D₂
        exact Turn.next (own := [(I2, oI2)]) D₂ ⟨f, _, _, _, by assumption, hT.more.iff fun k n => by rw [mem_take_succ hx]; exact ⟨fun z => z.elim (fun z => z.elim .inl fun y => .inr ⟨y.1, .inl y.2⟩) fun y => .inr ⟨y.1, .inr y.2⟩, fun z => z.elim (fun y => .inl (.inl y)) fun y => y.2.elim (fun q => .inl (.inr ⟨y.1, q⟩)) fun q => .inr ⟨y.1, q⟩⟩, Nat.le_trans (stored_le hlen) (by omega)⟩
      · rintro _ _ _ h tk ⟨f, o, kvs, o2, hIf, hT, hlen⟩ D
        repeat walk_at "m.step"
        refine Turn.next (own := [(I, oI)]) D ⟨f, _, _, _, _, hIf, hT.iff fun k n => ?_, by omega⟩
        rw [hyl, List.take_length]
        unfold Own
        constructor
        · rintro (⟨h1, h2⟩ | ⟨rfl, h2⟩)
          · exact ⟨Nat.lt_succ_of_lt h1, h2⟩
          · exact ⟨Nat.lt_succ_self _, by rw [hp, e], ns, hns, h2⟩
        · rintro ⟨h1, h2, ns', h3, h4⟩
          rcases Nat.lt_succ_iff_lt_or_eq.mp h1 with h | rfl
          · exact .inl ⟨h, h2, ns', h3, h4⟩
          · rw [hns] at h3; cases h3
            exact .inr ⟨rfl, h4⟩
    · repeat walk_at "m.step"
      rename Mem _ _ _ _ _ _ => D₂
      exact Turn.next (own := [(I, oI)]) D₂ ⟨f, _, _, _, _, hIf, skip e _ rfl, by omega⟩
  · rintro _ _ _ h tk ⟨f, o, kvs, o1, o2, hI, hT, hlen⟩ D
    repeat walk_at "m.step"
    rename Mem _ _ _ _ _ _ => D₂
    have hl : (ss.map Value.ref).length = d.sigs.length := by rw [List.length_map]; exact sk.1
    rw [hl] at hT
    exact hR _ _ f o kvs (D₂.kept kg) (D₂.get (.head _)) (D₂.newer kg (.head _) (by simp)) hI hT
/-! P1 -/
/-! what is needed, by the way of the nets -/
def Own' (d : Data) (k : Nat) (n : Int) : Prop := d.sigs[k]? = some true ∧ ∃ ns, d.nets[k]? = some ns ∧ n ∈ ns
inductive Base (d : Data) : Int → Prop
  | drv {r : List Int} {n : Int} : r ∈ d.roots → n ∈ r → Base d n
  | port {k : Nat} {ns : List Int} {n : Int} : k ∈ d.ports → d.nets[k]? = some ns → n ∈ ns → Base d n
  | row {r : Nat × List Int} {n : Int} : r ∈ d.rows → d.sigs[r.1]? = some false → n ∈ r.2 → Base d n
inductive Reach (d : Data) : Int → Prop
  | base {n : Int} : Base d n → Reach d n
  | cell {c : Int × List Int} {n : Int} : c ∈ d.cells → Reach d c.1 → n ∈ c.2 → Reach d n
  | key {k : Nat} {n' n : Int} {r : Nat × List Int} : Own' d k n' → Reach d n' → r ∈ d.rows → r.1 = k → n ∈ r.2 → Reach d n
def Needed (d : Data) (k : Nat) : Prop := ∃ n, Own' d k n ∧ Reach d n
theorem own_iff {d : Data} {k : Nat} {n : Int} : Own d d.sigs.length k n ↔ Own' d k n := ⟨fun z => z.2, fun z => ⟨(List.getElem?_eq_some_iff.mp z.1).1, z⟩⟩
theorem Good.own_inj {d : Data} (g : Good d) {k k' : Nat} {n : Int} (a : Own' d k n) (b : Own' d k' n) : k = k' :=
  let ⟨_, _, e, m⟩ := a; let ⟨_, _, e', m'⟩ := b; g.disj _ _ _ _ _ e e' m m'
theorem Good.outs_inj {d : Data} (g : Good d) {c c' : Int × List Int} (a : c ∈ d.cells) (b : c' ∈ d.cells) (e : c.1 = c'.1) : c = c' := by
  obtain ⟨i, hi⟩ := List.mem_iff_getElem?.mp a
  obtain ⟨j, hj⟩ := List.mem_iff_getElem?.mp b
  have h1 : (d.cells.map (·.1))[i]? = some c.1 := by rw [List.getElem?_map, hi]; rfl
  have h2 : (d.cells.map (·.1))[j]? = some c.1 := by rw [List.getElem?_map, hj, e]; rfl
  have hij : i = j := (List.getElem?_inj (List.getElem?_eq_some_iff.mp h1).1 g.outs).mp (h1.trans h2.symm)
  subst hij
  rw [hi] at hj; cases hj; rfl

/-! the list of work -/
structure WInv (d : Data) (W : List Int) (R : Int → Bool) (N : Int → Bool) : Prop where
  rW : ∀ n ∈ W, Reach d n
  rS : ∀ n, R n = true → Reach d n
  base : ∀ n, Base d n → n ∈ W ∨ R n = true
  cell : ∀ c ∈ d.cells, R c.1 = true → ∀ x ∈ c.2, x ∈ W ∨ R x = true
  own : ∀ n k, R n = true → Own' d k n → N k = true
  nec : ∀ x, N x = true → ∃ (k : Nat) (n : Int), x = k ∧ R n = true ∧ Own' d k n
  row : ∀ k : Nat, N k = true → ∀ r ∈ d.rows, r.1 = k → ∀ x ∈ r.2, x ∈ W ∨ R x = true
theorem WInv.start {d : Data} {W : List Int} {R N : Int → Bool} (h1 : ∀ n ∈ W, Base d n) (h2 : ∀ n, Base d n → n ∈ W) (hR : ∀ n, R n = false) (hN : ∀ n, N n = false) : WInv d W R N where
  rW := fun n h => .base (h1 n h)
  rS := fun n h => by rw [hR] at h; cases h
  base := fun n h => .inl (h2 n h)
  cell := fun c _ h => by rw [hR] at h; cases h
  own := fun n k h => by rw [hR] at h; cases h
  nec := fun x h => by rw [hN] at h; cases h
  row := fun k h => by rw [hN] at h; cases h
theorem mem_snoc {x n : Int} {W : List Int} (h : x ∈ W ++ [n]) : x ∈ W ∨ x = n := by simpa using h
theorem WInv.seen {d : Data} {W : List Int} {n : Int} {R N : Int → Bool} (I : WInv d (W ++ [n]) R N) (h : R n = true) : WInv d W R N := by
  have low : ∀ {x}, x ∈ W ++ [n] ∨ R x = true → x ∈ W ∨ R x = true := fun z => z.elim (fun m => (mem_snoc m).elim .inl fun e => .inr (e ▸ h)) .inr
  exact ⟨fun x m => I.rW x (List.mem_append_left _ m), I.rS, fun x b => low (I.base x b), fun c m r x y => low (I.cell c m r x y), I.own, I.nec, fun k a r m e x y => low (I.row k a r m e x y)⟩
theorem WInv.step {d : Data} {W C F : List Int} {n : Int} {R R' N N' : Int → Bool} (I : WInv d (W ++ [n]) R N) (hR : ∀ x, R' x = true ↔ x = n ∨ R x = true)
    (hC : ∀ x, x ∈ C ↔ ∃ c ∈ d.cells, c.1 = n ∧ x ∈ c.2) (hN : ∀ x, N' x = true ↔ N x = true ∨ ∃ k : Nat, x = k ∧ Own' d k n)
    (hF : ∀ x ∈ F, ∃ k, Own' d k n ∧ ∃ r ∈ d.rows, r.1 = k ∧ x ∈ r.2) (hF' : ∀ k, Own' d k n → N k = true ∨ ∀ r ∈ d.rows, r.1 = k → ∀ x ∈ r.2, x ∈ F) : WInv d (W ++ C ++ F) R' N' := by
  have rn : Reach d n := I.rW n (by simp)
  have up : ∀ {x}, x ∈ W ++ [n] ∨ R x = true → x ∈ W ++ C ++ F ∨ R' x = true := fun {x} z => by
    rcases z with m | r
    · rcases mem_snoc m with m | e
      · exact .inl (List.mem_append_left _ (List.mem_append_left _ m))
      · exact .inr ((hR x).mpr (.inl e))
    · exact .inr ((hR x).mpr (.inr r))
  refine ⟨fun x m => ?_, fun x r => ?_, fun x b => up (I.base x b), fun c m r x y => ?_, fun x k r o => ?_, fun x r => ?_, fun k a r m e x y => ?_⟩
  · rcases List.mem_append.mp m with m | m
    · rcases List.mem_append.mp m with m | m
      · exact I.rW x (List.mem_append_left _ m)
      · obtain ⟨c, hc, e, hx⟩ := (hC x).mp m
        exact .cell hc (e ▸ rn) hx
    · obtain ⟨k, o, r, hr, e, hx⟩ := hF x m
      exact .key o rn hr e hx
  · rcases (hR x).mp r with rfl | r
    · exact rn
    · exact I.rS x r
  · rcases (hR c.1).mp r with e | r
    · exact .inl (List.mem_append_left _ (List.mem_append_right _ ((hC x).mpr ⟨c, m, e, y⟩)))
    · exact up (I.cell c m r x y)
  · rcases (hR x).mp r with rfl | r
    · exact (hN _).mpr (.inr ⟨k, rfl, o⟩)
    · exact (hN _).mpr (.inl (I.own x k r o))
  · rcases (hN x).mp r with r | ⟨k, rfl, o⟩
    · obtain ⟨k, n', e, r', o⟩ := I.nec x r
      exact ⟨k, n', e, (hR n').mpr (.inr r'), o⟩
    · exact ⟨k, n, rfl, (hR n).mpr (.inl rfl), o⟩
  · have old : N k = true → x ∈ W ++ C ++ F ∨ R' x = true := fun q => up (I.row k q r m e x y)
    rcases (hN _).mp a with q | ⟨k', e', o⟩
    · exact old q
    · obtain rfl : k = k' := by omega
      rcases hF' k o with q | q
      · exact old q
      · exact .inl (List.mem_append_right _ (q r m e x y))
theorem WInv.fin {d : Data} {R N : Int → Bool} (I : WInv d [] R N) (x : Int) : N x = true ↔ ∃ k : Nat, x = k ∧ Needed d k := by
  have all : ∀ n, Reach d n → R n = true := fun n h => by
    induction h with
    | base b => exact (I.base _ b).elim (fun m => nomatch m) id
    | cell m _ h ih => exact (I.cell _ m ih _ h).elim (fun m => nomatch m) id
    | key o _ m e h ih => exact (I.row _ (I.own _ _ ih o) _ m e _ h).elim (fun m => nomatch m) id
  constructor
  · intro h
    obtain ⟨k, n, e, r, o⟩ := I.nec x h
    exact ⟨k, e, n, o, I.rS n r⟩
  · rintro ⟨k, rfl, n, o, r⟩
    exact I.own n k (all n r) o

/-! counting -/
theorem countP_le {α : Type} {p q : α → Bool} : ∀ {xs : List α}, (∀ x ∈ xs, p x = true → q x = true) → xs.countP p ≤ xs.countP q
  | [], _ => Nat.le_refl _
  | x :: xs, h => by
    have ih := countP_le (xs := xs) fun y hy => h y (.tail _ hy)
    simp only [List.countP_cons]
    cases e : p x with
    | false => simp; omega
    | true => simp [h x (.head _) e]; omega
theorem countP_lt {α : Type} {p q : α → Bool} : ∀ {xs : List α}, (∀ x ∈ xs, p x = true → q x = true) → (∃ x ∈ xs, p x = false ∧ q x = true) → xs.countP p < xs.countP q
  | [], _, h => by obtain ⟨x, hx, _⟩ := h; cases hx
  | x :: xs, h, ⟨y, hy, e1, e2⟩ => by
    have le := countP_le (xs := xs) fun y hy => h y (.tail _ hy)
    simp only [List.countP_cons]
    rcases List.mem_cons.mp hy with rfl | hy
    · simp [e1, e2]; omega
    · have ih := countP_lt (xs := xs) (fun y hy => h y (.tail _ hy)) ⟨y, hy, e1, e2⟩
      cases e : p x with
      | false => simp; omega
      | true => simp [h x (.head _) e]; omega
theorem countP_eq {α : Type} {p q : α → Bool} {xs : List α} (h : ∀ x ∈ xs, p x = true → q x = true) (e : xs.countP q ≤ xs.countP p) : ∀ x ∈ xs, q x = true → p x = true := fun x hx hq => by
  cases hp : p x with
  | true => rfl
  | false => exact absurd (countP_lt h ⟨x, hx, hp, hq⟩) (Nat.not_lt.mpr e)

/-! the measure of the work -/
def unf (d : Data) (R N : Int → Bool) : Nat := d.cells.countP (fun c => !R c.1) + (List.range d.sigs.length).countP (fun k : Nat => !N (k : Int))

theorem unf_step {d : Data} {W C F : List Int} {n : Int} {R R' N N' : Int → Bool} (h0 : R n = false) (hR : ∀ x, R' x = true ↔ x = n ∨ R x = true) (hN : ∀ x, N x = true → N' x = true)
    (hC : C.length = 0 ∨ ∃ c ∈ d.cells, c.1 = n) (hC9 : C.length ≤ 500) (hF : F.length = 0 ∨ ∃ k, k < d.sigs.length ∧ N (k : Nat) = false ∧ N' (k : Nat) = true) (hF9 : F.length ≤ 500) :
    (W ++ C ++ F).length + 1000 * unf d R' N' < (W ++ [n]).length + 1000 * unf d R N := by
  unfold unf
  have g1 : ∀ c ∈ d.cells, (fun c : Int × List Int => !R' c.1) c = true → (fun c : Int × List Int => !R c.1) c = true := fun c _ e => by
    simp only [Bool.not_eq_true'] at e ⊢
    cases q : R c.1 with
    | false => rfl
    | true => rw [(hR c.1).mpr (.inr q)] at e; cases e
  have g2 : ∀ k ∈ List.range d.sigs.length, (fun k : Nat => !N' (k : Int)) k = true → (fun k : Nat => !N (k : Int)) k = true := fun k _ e => by
    simp only [Bool.not_eq_true'] at e ⊢
    cases q : N (k : Int) with
    | false => rfl
    | true => rw [hN _ q] at e; cases e
  have l1 := countP_le g1
  have l2 := countP_le g2
  have s1 : C.length = 0 ∨ d.cells.countP (fun c => !R' c.1) < d.cells.countP (fun c => !R c.1) := hC.imp id fun ⟨c, hc, e⟩ => countP_lt g1 ⟨c, hc, by simp [(hR c.1).mpr (.inl e)], by simp [e, h0]⟩
  have s2 : F.length = 0 ∨ (List.range d.sigs.length).countP (fun k : Nat => !N' (k : Int)) < (List.range d.sigs.length).countP (fun k : Nat => !N (k : Int)) := hF.imp id fun ⟨k, hk, e1, e2⟩ => countP_lt g2 ⟨k, List.mem_range.mpr hk, by simp [e2], by simp [e1]⟩
  simp only [List.length_append, List.length_cons, List.length_nil]
  omega

/-! the laps -/
def act (d : Data) (R : Int → Bool) : Nat := d.cells.countP (fun c => R c.1) + (List.range d.sigs.length).countP (fun k => (d.sigs[k]? == some true) && ((d.nets[k]?.getD []).any R))
theorem act_le (d : Data) (R : Int → Bool) : act d R ≤ d.cells.length + d.sigs.length := by
  unfold act
  have h1 := List.countP_le_length (p := fun c : Int × List Int => R c.1) (l := d.cells)
  have h2 := List.countP_le_length (p := fun k => (d.sigs[k]? == some true) && ((d.nets[k]?.getD []).any R)) (l := List.range d.sigs.length)
  rw [List.length_range] at h2
  omega
theorem active_iff {d : Data} {R : Int → Bool} {k : Nat} : ((d.sigs[k]? == some true) && ((d.nets[k]?.getD []).any R)) = true ↔ ∃ n, Own' d k n ∧ R n = true := by
  unfold Own'
  simp only [Bool.and_eq_true, beq_iff_eq, List.any_eq_true]
  constructor
  · rintro ⟨h1, n, h2, h3⟩
    cases q : d.nets[k]? with
    | none => rw [q] at h2; cases h2
    | some ns => rw [q] at h2; exact ⟨n, ⟨h1, ns, rfl, h2⟩, h3⟩
  · rintro ⟨n, ⟨h1, ns, h2, h3⟩, h4⟩
    exact ⟨h1, n, by rw [h2]; exact h3, h4⟩
structure LInv (d : Data) (j : Nat) (R : Int → Bool) (K : Nat → Prop) : Prop where
  base : ∀ n, Base d n → R n = true
  rS : ∀ n, R n = true → Reach d n
  kN : ∀ k, K k → Needed d k
  fin : (∀ n, Reach d n → R n = true) ∧ (∀ k, Needed d k → K k) ∨ j ≤ act d R
/-- one lap -/
structure Lap (d : Data) (R R' : Int → Bool) (K K' : Nat → Prop) : Prop where
  up : ∀ n, R n = true → R' n = true
  rS : ∀ n, R' n = true → Reach d n
  kup : ∀ k, K k → K' k
  kN : ∀ k, K' k → Needed d k
  cell : ∀ c ∈ d.cells, R c.1 = true → ∀ x ∈ c.2, R' x = true
  key : ∀ k n, Own' d k n → R n = true → K' k ∧ ∀ r ∈ d.rows, r.1 = k → ∀ x ∈ r.2, R' x = true
theorem LInv.lap {d : Data} {j : Nat} {R R' : Int → Bool} {K K' : Nat → Prop} (I : LInv d j R K) (L : Lap d R R' K K') : LInv d (j + 1) R' K' := by
  refine ⟨fun n b => L.up n (I.base n b), L.rS, L.kN, ?_⟩
  rcases I.fin with ⟨h1, h2⟩ | h
  · exact .inl ⟨fun n r => L.up n (h1 n r), fun k r => L.kup k (h2 k r)⟩
  · by_cases lt : j + 1 ≤ act d R'
    · exact .inr lt
    · refine .inl ?_
      have le1 := countP_le (p := fun c : Int × List Int => R c.1) (q := fun c => R' c.1) (xs := d.cells) fun c _ e => L.up _ e
      have le2 := countP_le (p := fun k => (d.sigs[k]? == some true) && ((d.nets[k]?.getD []).any R)) (q := fun k => (d.sigs[k]? == some true) && ((d.nets[k]?.getD []).any R')) (xs := List.range d.sigs.length) fun k _ e => by
        rw [active_iff] at e ⊢
        obtain ⟨n, o, r⟩ := e
        exact ⟨n, o, L.up n r⟩
      unfold act at h lt
      have b1 := countP_eq (p := fun c : Int × List Int => R c.1) (q := fun c => R' c.1) (xs := d.cells) (fun c _ e => L.up _ e) (by omega)
      have b2 := countP_eq (p := fun k => (d.sigs[k]? == some true) && ((d.nets[k]?.getD []).any R)) (q := fun k => (d.sigs[k]? == some true) && ((d.nets[k]?.getD []).any R')) (xs := List.range d.sigs.length) (fun k _ e => by
        rw [active_iff] at e ⊢
        obtain ⟨n, o, r⟩ := e
        exact ⟨n, o, L.up n r⟩) (by omega)
      have back : ∀ k n, Own' d k n → R' n = true → ∃ n', Own' d k n' ∧ R n' = true := fun k n o r =>
        active_iff.mp (b2 k (List.mem_range.mpr (List.getElem?_eq_some_iff.mp o.1).1) (active_iff.mpr ⟨n, o, r⟩))
      have all : ∀ n, Reach d n → R' n = true := fun n r => by
        induction r with
        | base b => exact L.up _ (I.base _ b)
        | cell m _ h ih => exact L.cell _ m (b1 _ m ih) _ h
        | key o _ m e h ih =>
          obtain ⟨n', o', r'⟩ := back _ _ o ih
          exact (L.key _ n' o' r').2 _ m e _ h
      refine ⟨all, fun k ⟨n, o, r⟩ => ?_⟩
      obtain ⟨n', o', r'⟩ := back k n o (all n r)
      exact (L.key k n' o' r').1
theorem LInv.end_ {d : Data} {R : Int → Bool} {K : Nat → Prop} (I : LInv d (d.cells.length + d.sigs.length + 1) R K) (k : Nat) : K k ↔ Needed d k := by
  refine ⟨I.kN k, ?_⟩
  rcases I.fin with ⟨_, h⟩ | h
  · exact h k
  · have := act_le d R; omega
/-! P2 -/
section
variable {w : World} {A : Around} {G : Gh} {L : Addr} {nm : List Str} {vs vs' : List (Option Value)} {σ σ' : List (Addr × Obj)} {h : Heap} {s₀ : Shared} {tk : Nat} {env : Env}
theorem w_cell_ins {aN : Addr} {d : Data} {Q : Value → Shared → Prop} (HA : Room A 5) (Γ : Gnd w G) (D : Mem G L nm vs σ h) (hd : NetlistOK G d aN) (gd : Good d)
    (hQ : ∀ f o kvs h' tk', Mem G L nm vs ((f, o) :: σ) h' → ID w f o kvs → CTab G d d.cells.length kvs → Q (.ref f) (S s₀ h' tk')) : wpAny (MM w) A (call (.ref 63) [.ref aN]) Q F0 (S s₀ h tk) :=
  wpAny_call (c_cell_ins HA Γ D.keep hd (Nat.le_trans gd.c6 (by decide)) fun h' tk' f o kvs kp hf hn hI hT => hQ f o kvs h' tk' (D.fresh (fun b o e => kp b o e (by simp)) hf hn) hI hT)
theorem w_integer_nets {aW aD : Addr} {d : Data} {Q : Value → Shared → Prop} (HA : Room A 12) (Γ : Gnd w G) (D : Mem G L nm vs σ h) (hw : WiresOK w G d aW) (hd : DesignOK G d aD) (gd : Good d)
    (hQ : ∀ f o kvs h' tk', Mem G L nm vs ((f, o) :: σ) h' → ID w f o kvs → OTab (Own d d.sigs.length) kvs → Q (.ref f) (S s₀ h' tk')) : wpAny (MM w) A (call (.ref 77) [.ref aW, .ref aD]) Q F0 (S s₀ h tk) :=
  wpAny_call (c_integer_nets HA Γ D.keep hw hd gd fun h' tk' f o kvs kp hf hn hI hT => hQ f o kvs h' tk' (D.fresh (fun b o e => kp b o e (by simp)) hf hn) hI hT)
end
local macro_rules | `(tactic| walk_at "m.mem") => `(tactic| first | assumption | (apply List.mem_append_left; assumption))
local macro_rules | `(tactic| walk_at "m.room") => `(tactic| first | assumption | exact Room.le (by assumption) (by omega))
local macro_rules | `(tactic| walk_at "m.call") => `(tactic| first
  | ((with_reducible refine' l_extend ?D ?hm (.inl rfl) ?kn ?hz ?_); (case D => walk_at "m.D"); (case hm => walk_at "m.mem"); (case kn => walk_at "m.kn"); (case hz => omega); intro _ _ _; walk_at "m.up")
  | ((with_reducible refine' l_extend ?D ?hm (.inr rfl) ?kn ?hz ?_); (case D => walk_at "m.D"); (case hm => walk_at "m.mem"); (case kn => walk_at "m.kn"); (case hz => omega); intro _ _ _; walk_at "m.up"))
local macro_rules | `(tactic| walk_at "m.kn") => `(tactic| assumption)
/-- the items of a row, its signal -/
local macro_rules | `(tactic| walk_at "m.rowat") => `(tactic| first
  | (refine' t_at (j := 1) ?D (Or.inl ?k) rfl (by omega) ?hx ?_ ?hs; (case D => walk_at "m.D"); (case k => assumption); (case hx => exact rfl); (case hs => with_unfolding_all rfl)))

/-- the nets that the rows of k take in, of the first i rows -/
def feed (d : Data) (i k : Nat) : List Int := ((d.rows.take i).filter fun r => r.1 == k).flatMap (·.2)
theorem feed_more {d : Data} {i k : Nat} {r : Nat × List Int} (hr : d.rows[i]? = some r) : feed d (i + 1) k = feed d i k ++ (if r.1 = k then r.2 else []) := by
  unfold feed
  rw [List.take_add_one, hr, List.filter_append, List.flatMap_append]
  congr 1
  by_cases e : r.1 = k
  · simp [e]
  · simp [e]
theorem mem_feed {d : Data} {i k : Nat} {x : Int} : x ∈ feed d i k ↔ ∃ r ∈ d.rows.take i, r.1 = k ∧ x ∈ r.2 := by
  unfold feed
  simp only [List.mem_flatMap, List.mem_filter, beq_iff_eq]
  exact ⟨fun ⟨r, ⟨a, b⟩, c⟩ => ⟨r, a, b, c⟩, fun ⟨r, a, b, c⟩ => ⟨r, ⟨a, b⟩, c⟩⟩
theorem feed_le {d : Data} (g : Good d) : ∀ {i k : Nat}, i ≤ d.rows.length → (feed d i k).length ≤ 4 * i
  | 0, _, _ => Nat.le_refl _
  | i + 1, k, h => by
    have ih := feed_le g (i := i) (k := k) (by omega)
    have hr : d.rows[i]? = some d.rows[i] := by simp [show i < d.rows.length by omega]
    have h4 := g.w4 _ (List.mem_of_getElem? hr)
    rw [feed_more hr, List.length_append]
    split
    · omega
    · simp; omega
def FTab (d : Data) (fl : List (Addr × Obj)) (i : Nat) (kvs : List (Int × Value)) : Prop :=
  kvs.length ≤ i ∧ (∀ x v, valueAt kvs x = some v → ∃ (k : Nat) (l : Addr) (ys : List Value) (n : Nat), x = k ∧ v = .ref l ∧ (l, listOf ys.toArray n) ∈ fl ∧ IntsAre ys (feed d i k)) ∧
    ∀ (j : Nat) (r : Nat × List Int), j < i → d.rows[j]? = some r → d.sigs[r.1]? = some true → (valueAt kvs r.1).isSome = true
theorem FTab.get {G : Gh} {L : Addr} {nm : List Str} {vs : List (Option Value)} {σ fl : List (Addr × Obj)} {h : Heap} {d : Data} {i k : Nat} {kvs : List (Int × Value)} {l0 : Addr} {n0 : Nat} {xs : List Value} (D : Mem G L nm vs σ h) (T : FTab d fl i kvs) (hp : d.sigs[k]? = some true) (hfl : ∀ p ∈ fl, p ∈ σ) (h0 : (l0, listOf xs.toArray n0) ∈ σ) (hx : xs = []) :
    ∃ l ys nl, (valueAt kvs (k : Int)).getD (.ref l0) = .ref l ∧ (l, listOf ys.toArray nl) ∈ σ ∧ IntsAre ys (feed d i k) := by
  subst hx
  cases q : valueAt kvs (k : Int) with
  | some v =>
    obtain ⟨k', l, ys, n, e, rfl, m, hi⟩ := T.2.1 _ _ q
    obtain rfl : k = k' := by omega
    exact ⟨l, ys, n, rfl, hfl _ m, hi⟩
  | none =>
    refine ⟨l0, [], n0, rfl, h0, ?_⟩
    have : feed d i k = [] := by
      rw [List.eq_nil_iff_forall_not_mem]
      intro x hx
      obtain ⟨r, hr, rfl, _⟩ := mem_feed.mp hx
      obtain ⟨j, hj⟩ := List.mem_iff_getElem?.mp hr
      have hji : j < i := by have := (List.getElem?_eq_some_iff.mp hj).1; rw [List.length_take] at this; omega
      rw [List.getElem?_take, if_pos hji] at hj
      have := T.2.2 j r hji hj hp
      rw [q] at this; cases this
    rw [this]; exact .nil
theorem FTab.skip {d : Data} {fl : List (Addr × Obj)} {i : Nat} {kvs : List (Int × Value)} {r : Nat × List Int} (T : FTab d fl i kvs) (hr : d.rows[i]? = some r) (hp : d.sigs[r.1]? = some false) (hk : ∀ x v, valueAt kvs x = some v → ∀ k : Nat, x = k → d.sigs[k]? = some true) : FTab d fl (i + 1) kvs := by
  refine ⟨Nat.le_succ_of_le T.1, fun x v e => ?_, fun j r' hj e hp' => ?_⟩
  · obtain ⟨k, l, ys, n, e1, e2, m, hi⟩ := T.2.1 x v e
    refine ⟨k, l, ys, n, e1, e2, m, ?_⟩
    rw [feed_more hr, if_neg, List.append_nil]
    · exact hi
    · intro q
      have := hk x v e k e1
      rw [← q, hp] at this; cases this
  · rcases Nat.lt_succ_iff_lt_or_eq.mp hj with h | rfl
    · exact T.2.2 j r' h e hp'
    · rw [hr] at e; cases e
      rw [hp] at hp'; cases hp'
theorem FTab.more {d : Data} {fl : List (Addr × Obj)} {i : Nat} {kvs : List (Int × Value)} {r : Nat × List Int} {l : Addr} {ys : List Value} {n : Nat} (T : FTab d fl i kvs) (hr : d.rows[i]? = some r) (hi : IntsAre ys (feed d i r.1 ++ r.2)) :
    FTab d ((l, listOf ys.toArray n) :: fl) (i + 1) (stored kvs (r.1 : Int) (.ref l)) := by
  refine ⟨stored_le T.1, fun x v e => ?_, fun j r' hj e hp' => ?_⟩
  · rw [valueAt_stored] at e
    split at e
    · rename_i q
      cases e
      refine ⟨r.1, l, ys, n, q, rfl, .head _, ?_⟩
      rw [feed_more hr, if_pos rfl]
      exact hi
    · rename_i q
      obtain ⟨k, l, ys, n, e1, e2, m, hi⟩ := T.2.1 x v e
      refine ⟨k, l, ys, n, e1, e2, .tail _ m, ?_⟩
      rw [feed_more hr, if_neg, List.append_nil]
      · exact hi
      · intro q'
        exact q (by rw [e1, q'])
  · rw [valueAt_stored]
    split
    · rfl
    · rename_i q
      rcases Nat.lt_succ_iff_lt_or_eq.mp hj with h | rfl
      · exact T.2.2 j r' h e hp'
      · rw [hr] at e; cases e
        exact absurd rfl q
theorem Mem.sublist {G : Gh} {L : Addr} {nm : List Str} {vs : List (Option Value)} {σ σ' : List (Addr × Obj)} {h : Heap} (D : Mem G L nm vs σ h) (s : σ'.Sublist σ) : Mem G L nm vs σ' h := D.sub (fun _ m => s.subset m) (D.nd.sublist (s.map _))
theorem Mem.perm {G : Gh} {L : Addr} {nm : List Str} {vs : List (Option Value)} {σ σ' : List (Addr × Obj)} {h : Heap} (D : Mem G L nm vs σ h) (s : σ.Perm σ') : Mem G L nm vs σ' h := D.sub (fun _ m => s.mem_iff.mpr m) ((s.map _).nodup_iff.mp D.nd)

abbrev nmN : List Str := [Str.ofString "wires", Str.ofString "netlist", Str.ofString "design", Str.ofString "rows", Str.ofString "owner", Str.ofString "sources", Str.ofString "feeding", Str.ofString "work", Str.ofString "needed", Str.ofString "seen",
  Str.ofString "place", Str.ofString "direction", Str.ofString "name", Str.ofString "key", Str.ofString "row", Str.ofString "signal", Str.ofString "net"]
theorem pair_addr_inj {w : World} {g : Gh} {xs : List (List Int × Addr × Value)} {roots : List (List Int)} (a : All2 (DrvAt w g) xs roots) (hn : (xs.map (·.1)).Nodup) {i j : Nat} {x y : List Int × Addr × Value} (hx : xs[i]? = some x) (hy : xs[j]? = some y) (e : x.2.1 = y.2.1) : i = j := by
  obtain ⟨_, _, ⟨o, ho, _, hc, items, n, hd, hi⟩, _⟩ := a.get hx
  obtain ⟨_, _, ⟨o', ho', _, hc', items', n', hd', hi'⟩, _⟩ := a.get hy
  rw [e, ho'] at ho
  cases ho
  rw [hd] at hd'
  cases hd'
  have e1 := hi.inj hi'
  have h1 : (xs.map (·.1))[i]? = some x.1 := by rw [List.getElem?_map, hx]; rfl
  have h2 : (xs.map (·.1))[j]? = some x.1 := by rw [List.getElem?_map, hy, e1]; rfl
  exact (List.getElem?_inj (List.getElem?_eq_some_iff.mp h1).1 hn).mp (h1.trans h2.symm)

theorem i_neg {w : World} {A : Around} {h : Heap} {s₀ : Shared} {tk : Nat} {E : Value → Shared → Prop} {a : Int} {t : Tok} {Q : Value → Shared → Prop} (hQ : ∀ t' tk', Q (.int (-a) t') (S s₀ h tk')) : wpAny (MM w) A (unaryOp .USub (.int a t)) Q E (S s₀ h tk) := PyProof.Rows.neg_int (s := S s₀ h tk) (hQ tk (tk + 1))
theorem IntsAre.snoc_inv : ∀ {vs : List Value} {ns : List Int}, IntsAre vs ns → vs ≠ [] → ∃ ws v t ms, vs = ws ++ [Value.int v t] ∧ ns = ms ++ [v] ∧ IntsAre ws ms
  | _, _, .nil, h => absurd rfl h
  | _, _, .cons n t .nil, _ => ⟨[], n, t, [], rfl, rfl, .nil⟩
  | _, _, .cons n t (.cons n' t' r), _ => by
    obtain ⟨ws, v, u, ms, e1, e2, i⟩ := IntsAre.snoc_inv (.cons n' t' r) (by simp)
    exact ⟨_ :: ws, v, u, n :: ms, by rw [e1]; rfl, by rw [e2]; rfl, .cons n t i⟩
theorem CTab.get {G : Gh} {L : Addr} {nm : List Str} {vs : List (Option Value)} {σ : List (Addr × Obj)} {h : Heap} {d : Data} {n : Int} {kvs : List (Int × Value)} {t0 : Addr} {n0 : Nat} {xs : List Value} (_ : Mem G L nm vs σ h) (g : Good d) (T : CTab G d d.cells.length kvs) (h0 : (t0, tupOf xs.toArray n0) ∈ σ) (hx : xs = []) :
    ∃ l ys nl C, (valueAt kvs n).getD (.ref t0) = .ref l ∧ Knows G σ l (tupOf ys.toArray nl) ∧ IntsAre ys C ∧ (∀ x, x ∈ C ↔ ∃ c ∈ d.cells, c.1 = n ∧ x ∈ c.2) ∧ C.length ≤ 2 ∧ (C.length = 0 ∨ ∃ c ∈ d.cells, c.1 = n) := by
  subst hx
  cases q : valueAt kvs n with
  | some v =>
    obtain ⟨j, c, ai, _, hc, e, rfl, ys, nl, hk, hi⟩ := T.2.1 _ _ q
    have hm := List.mem_of_getElem? hc
    refine ⟨ai, ys, nl, c.2, rfl, .inl hk, hi, fun x => ⟨fun m => ⟨c, hm, e, m⟩, fun ⟨c', hm', e', m⟩ => ?_⟩, g.i2 c hm, .inr ⟨c, hm, e⟩⟩
    rw [g.outs_inj hm hm' (e.trans e'.symm)]; exact m
  | none =>
    refine ⟨t0, [], n0, [], rfl, .inr h0, .nil, fun x => ⟨(fun m => nomatch m), fun ⟨c, hm, e, _⟩ => ?_⟩, Nat.zero_le _, .inl rfl⟩
    obtain ⟨j, hj⟩ := List.mem_iff_getElem?.mp hm
    have := T.2.2 j c (List.getElem?_eq_some_iff.mp hj).1 hj
    rw [e, q] at this; cases this
theorem OTab.get {d : Data} {n : Int} {kvs : List (Int × Value)} {t : Tok} (T : OTab (Own d d.sigs.length) kvs) :
    (∃ (k : Nat) (u : Tok), (valueAt kvs n).getD (.int (-1) t) = .int k u ∧ Own' d k n) ∨ ((valueAt kvs n).getD (.int (-1) t) = .int (-1) t ∧ ∀ k, ¬ Own' d k n) := by
  cases q : valueAt kvs n with
  | some v =>
    obtain ⟨k, u, o, rfl⟩ := T.1 _ _ q
    exact .inl ⟨k, u, rfl, own_iff.mp o⟩
  | none =>
    refine .inr ⟨rfl, fun k o => ?_⟩
    have := T.2 k n (own_iff.mpr o)
    rw [q] at this; cases this
theorem Own'.lt {d : Data} {k : Nat} {n : Int} (o : Own' d k n) : k < d.sigs.length := (List.getElem?_eq_some_iff.mp o.1).1
abbrev inK (kvs : List (Int × Value)) : Int → Bool := fun n => (valueAt kvs n).isSome
theorem inK_stored {kvs : List (Int × Value)} {n : Int} {v : Value} (x : Int) : inK (stored kvs n v) x = true ↔ x = n ∨ inK kvs x = true := by
  show (valueAt (stored kvs n v) x).isSome = true ↔ _
  rw [valueAt_stored]
  split
  · rename_i e
    exact ⟨fun _ => .inl e, fun _ => rfl⟩
  · rename_i e
    exact ⟨.inr, fun h => h.elim (fun q => absurd q e) id⟩

theorem ite_t {P Q : Prop} (h : P) : if true = true then P else Q := by rw [if_pos rfl]; exact h
theorem ite_f {P Q : Prop} (h : Q) : if false = true then P else Q := by rw [if_neg Bool.false_ne_true]; exact h
local macro_rules | `(tactic| walk_at "m.step") => `(tactic| with_reducible first
  | refine ite_t ?_
  | refine ite_f ?_)
theorem feed_all {d : Data} {k : Nat} {x : Int} : x ∈ feed d d.rows.length k ↔ ∃ r ∈ d.rows, r.1 = k ∧ x ∈ r.2 := by rw [mem_feed, List.take_length]
/-! D6 -/
inductive WNd1 (G' : Gh) (aW : Addr) (aN : Addr) (aD : Addr) (aR : Addr) (fo : Addr) (fc : Addr) (r : Addr) (out : List Addr) (n' : Nat) (oc : Obj) (oo : Obj) (w : World) (d : Data) (xs : List (List Int × Addr × Value)) (i : Nat) : Gh → List (Option Value) → List (Addr × Obj) → Prop
  | mk (work ffd : Addr) (of_ : Obj) (wvs : List Value) (W : List Int) (nw : Nat) (j1 j2 j3 j4 j5 j6 j7 : Option Value) (h4 : IntsAre wvs W) (h5 : W.length ≤ 3 * i) (h6 : ID w ffd of_ []) (h7 : (∀ n ∈ W, Base d n)) (h8 : ∀ (j : Nat) (x : List Int × Addr × Value) (rt : List Int) (jj : Nat), j < i → out[j]? = some x.2.1 → xs[jj]? = some x → d.roots[jj]? = some rt → ∀ n ∈ rt, n ∈ W) : WNd1 G' aW aN aD aR fo fc r out n' oc oo w d xs i G' [some (.ref aW), some (.ref aN), some (.ref aD), some (.ref aR), some (.ref fo), some (.ref fc), some (.ref ffd), some (.ref work), none, none, j1, j2, j3, j4, j5, j6, j7] [(r, listOf (out.map Value.ref).toArray n'), (work, listOf wvs.toArray nw), (ffd, of_), (fc, oc), (fo, oo)]
inductive WNd2 (G' : Gh) (aW : Addr) (aN : Addr) (aD : Addr) (aR : Addr) (fo : Addr) (fc : Addr) (ffd : Addr) (work : Addr) (of_ : Obj) (oc : Obj) (oo : Obj) (d : Data) (i : Nat) : Gh → List (Option Value) → List (Addr × Obj) → Prop
  | mk (wvs : List Value) (W : List Int) (nw : Nat) (j1 j2 j3 j4 j5 j6 j7 : Option Value) (h4 : IntsAre wvs W) (h5 : W.length ≤ 9 + 4 * i) (h6 : (∀ n ∈ W, Base d n)) (h7 : (∀ r ∈ d.roots, ∀ n ∈ r, n ∈ W)) (h8 : ∀ (j k : Nat) (ns : List Int), j < i → d.ports[j]? = some k → d.nets[k]? = some ns → ∀ n ∈ ns, n ∈ W) : WNd2 G' aW aN aD aR fo fc ffd work of_ oc oo d i G' [some (.ref aW), some (.ref aN), some (.ref aD), some (.ref aR), some (.ref fo), some (.ref fc), some (.ref ffd), some (.ref work), none, none, j1, j2, j3, j4, j5, j6, j7] [(work, listOf wvs.toArray nw), (ffd, of_), (fc, oc), (fo, oo)]
inductive WNd3 (G' : Gh) (aW : Addr) (aN : Addr) (aD : Addr) (aR : Addr) (fo : Addr) (fc : Addr) (ffd : Addr) (work : Addr) (oc : Obj) (oo : Obj) (w : World) (d : Data) (i : Nat) : Gh → List (Option Value) → List (Addr × Obj) → Prop
  | mk (wvs : List Value) (W : List Int) (nw : Nat) (of_ : Obj) (fkvs : List (Int × Value)) (fl : List (Addr × Obj)) (j1 j2 j3 j4 j5 j6 j7 : Option Value) (h4 : IntsAre wvs W) (h5 : W.length ≤ 21 + 4 * i) (h6 : ID w ffd of_ fkvs) (h7 : FTab d fl i fkvs) (h8 : (∀ x v, valueAt fkvs x = some v → ∀ k : Nat, x = k → d.sigs[k]? = some true)) (h9 : (∀ n ∈ W, Base d n)) (h10 : (∀ r ∈ d.roots, ∀ n ∈ r, n ∈ W)) (h11 : (∀ k ∈ d.ports, ∀ ns, d.nets[k]? = some ns → ∀ n ∈ ns, n ∈ W)) (h12 : ∀ (j : Nat) (r : Nat × List Int), j < i → d.rows[j]? = some r → d.sigs[r.1]? = some false → ∀ n ∈ r.2, n ∈ W) : WNd3 G' aW aN aD aR fo fc ffd work oc oo w d i G' [some (.ref aW), some (.ref aN), some (.ref aD), some (.ref aR), some (.ref fo), some (.ref fc), some (.ref ffd), some (.ref work), none, none, j1, j2, j3, j4, j5, j6, j7] ((work, listOf wvs.toArray nw) :: (ffd, of_) :: (fc, oc) :: (fo, oo) :: fl)
inductive WNd4 (G' : Gh) (aW : Addr) (aN : Addr) (aD : Addr) (aR : Addr) (fo : Addr) (fc : Addr) (ffd : Addr) (work : Addr) (of_ : Obj) (oc : Obj) (oo : Obj) (fl : List (Addr × Obj)) (w : World) (d : Data) (m : Nat) : Gh → List (Option Value) → List (Addr × Obj) → Prop
  | mk (wvs : List Value) (W : List Int) (nw : Nat) (sd nd : Addr) (os on_ : Obj) (skvs nkvs : List (Int × Value)) (j1 j2 j3 j4 j5 j6 j7 : Option Value) (h4 : IntsAre wvs W) (h5 : ID w sd os skvs) (h6 : ID w nd on_ nkvs) (h7 : WInv d W (inK skvs) (inK nkvs)) (h8 : W.length + 1000 * unf d (inK skvs) (inK nkvs) = m) (h9 : skvs.length + m ≤ 20000) (h10 : nkvs.length + (List.range d.sigs.length).countP (fun k : Nat => !(inK nkvs (k : Int))) ≤ 7) : WNd4 G' aW aN aD aR fo fc ffd work of_ oc oo fl w d m G' [some (.ref aW), some (.ref aN), some (.ref aD), some (.ref aR), some (.ref fo), some (.ref fc), some (.ref ffd), some (.ref work), some (.ref nd), some (.ref sd), j1, j2, j3, j4, j5, j6, j7] ((sd, os) :: (nd, on_) :: (work, listOf wvs.toArray nw) :: (ffd, of_) :: (fc, oc) :: (fo, oo) :: fl)
theorem c_needed {w : World} {A : Around} {G : Gh} {h : Heap} {s₀ : Shared} {tk : Nat} {aD aN aW aR : Addr} {d : Data} {R : Result → Shared → Prop}
    (HA : Room A 20) (Γ : Gnd w G) (kp : ∀ b o, G b = some o → h.get? b = some o) (hl : Laid w G d aD aN aW aR) (gd : Good d)
    (hR : ∀ h' tk' f o kvs, Keep [] h h' → h'.get? f = some o → h.get? f = none → ID w f o kvs → kvs.length ≤ 7 → (∀ x : Int, x ∈ kvs.map (·.1) ↔ ∃ k : Nat, x = (k : Int) ∧ Needed d k) → R (.ok (.ret (.ref f))) (S s₀ h' tk')) :
    codeAny (MM w) A (.call (.ref 84) ⟨[.ref aW, .ref aN, .ref aD, .ref aR], []⟩) R (S s₀ h tk) := by
  refine enter (f := 84) (W := []) (nm := nmN) (vs := [some (.ref aW), some (.ref aN), some (.ref aD), some (.ref aR), none, none, none, none, none, none, none, none, none, none, none, none, none]) (binds := [(Str.ofString "wires", .ref aW), (Str.ofString "netlist", .ref aN), (Str.ofString "design", .ref aD), (Str.ofString "rows", .ref aR)]) HA Γ kp rfl rfl (BindsTo.of_eq rfl) rfl rfl (by decide +kernel) ⟨rfl, rfl, rfl, rfl, trivial⟩ (fun p hp => nomatch hp) (by simp) ?_
  intro A' G' L h₁ tk₁ HA' Γ' kg D hA'
  have le : Le G G' := fun b o e => kg b o (kp b o e) (by simp)
  have hl := hl.mono le
  have hN : NetlistOK G' d aN := hl.netlist
  have hW : WiresOK w G' d aW := hl.wires
  have hD : DesignOK G' d aD := hl.design
  obtain ⟨dd, o, al, ap, e1, e2, f1, f2, ⟨ss, n, e3, sk⟩, ps, np, e4, hps⟩ := hl.design
  obtain ⟨dw, ow, an, ad, g1, g2, q1, q2, ⟨on, nvs, g3, hI, hnl, hn⟩, od, xs, g4, hT, hx⟩ := hl.wires
  obtain ⟨rs, nr, e5, hrs⟩ := hl.rows
  have hxn : (xs.map (·.1)).Nodup := by obtain ⟨_, _, _, _, _, _, z⟩ := hT; exact z
  have hx3 : xs.length ≤ 3 := hx.1 ▸ gd.r3
  have hx' : ∀ x ∈ xs, ∃ o, G' x.2.1 = some o ∧ IsPair o ∧ TupKeyObj (ik w) x.1 o := fun x m => by
    obtain ⟨i, hi⟩ := List.mem_iff_getElem?.mp m
    obtain ⟨_, _, z, _⟩ := hx.get hi
    exact z
  have hTK : ∀ σ, TKs w G' σ xs := fun σ x m => let ⟨o, a, _, b⟩ := hx' x m; ⟨o, .inl a, b⟩
  have hu : A'.units + 1 < cLine := by have := HA'.units; show A'.units + 1 < 9900; omega
  repeat walk_at "m.step"
  refine w_integer_nets (by walk_at "m.room") Γ' (by walk_at "m.D") hW hD gd fun fo oo okvs h2 tk2 D2 hIo hOT => ?_
  repeat walk_at "m.step"
  refine w_cell_ins (by walk_at "m.room") Γ' (by walk_at "m.D") hN gd fun fc oc ckvs h3 tk3 D3 hIc hCT => ?_
  repeat walk_at "m.step"
  rename ID w _ _ [] => hIf
  rename Mem _ _ _ _ _ _ => D4
  refine td_sorted HA'.hd D4 (.inl g4) hT (fun x m => let ⟨o, a, b, _⟩ := hx' x m; ⟨o, .inl a, b⟩) hx3 fun r out n' h5 tk5 D5 hout => ?_
  -- the drivers
  refine r_iter_listP (nm := nmN) (xs := out.map Value.ref) HA'.hd D5
    (WNd1 G' aW aN aD aR fo fc r out n' oc oo w d xs)
    (fun i g vs σ j => by cases j; exact .inr (.head _))
    ⟨_, _, _, [], [], _, _, _, _, _, _, _, _, .nil, Nat.le_refl _, hIf, (fun n m => nomatch m), fun j _ _ _ h => absurd h (Nat.not_lt_zero _)⟩ ?_ ?_
  · rintro R' i G' _ _ h tk v I oI hv ⟨work, ffd, of_, wvs, W, nw, j1, j2, j3, j4, j5, j6, j7, hw, hwl, hIf, hb, hd⟩ D
    rw [List.getElem?_map] at hv
    obtain ⟨ca, hca, rfl⟩ := Option.map_eq_some_iff.mp hv
    have hm : ca ∈ xs.map (·.2.1) := hout.mem_iff.mp (List.mem_of_getElem? hca)
    obtain ⟨x, hxm, rfl⟩ := List.mem_map.mp hm
    obtain ⟨jx, hjx⟩ := List.mem_iff_getElem?.mp hxm
    obtain ⟨rt, hrt, _, l, hl1, ys, nl, hl2, hys⟩ := hx.get hjx
    obtain ⟨ok, hok, _, hto⟩ := hx' x hxm
    have hak : atKey xs x.1 = some x.2 := atKey_of_get hxn hjx
    have hi3 : i < 3 := by have := (List.getElem?_eq_some_iff.mp hca).1; have := hout.length_eq; rw [List.length_map] at this; omega
    have hr3 := gd.rl rt (List.mem_of_getElem? hrt)
    have := hys.length
    have := hw.length
    repeat walk_at "m.step"
    refine td_item hu (by walk_at "m.D") (.inl g4) hT (hTK _) (.inl hok) hto hak (fun tk => ?_) (by with_unfolding_all rfl)
    rw [hl1]
    repeat walk_at "m.step"
    rename Mem _ _ _ _ _ _ => D₂
    refine Turn.next (own := [(I, oI)]) D₂ ⟨work, ffd, of_, _, W ++ rt, _, _, _, _, _, _, _, _, hw.append hys, by rw [List.length_append]; omega, hIf, fun n m => ?_, fun j x' rt' jj hj ho hxj hrj n m => ?_⟩
    · exact (List.mem_append.mp m).elim (hb n) fun m => .drv (List.mem_of_getElem? hrt) m
    · rcases Nat.lt_succ_iff_lt_or_eq.mp hj with h | rfl
      · exact List.mem_append_left _ (hd j x' rt' jj h ho hxj hrj n m)
      · rw [hca] at ho
        obtain rfl := pair_addr_inj hx hxn hjx hxj (Option.some.inj ho)
        rw [hrt] at hrj; cases hrj
        exact List.mem_append_right _ m
  rintro G' _ _ h tk ⟨work, ffd, of_, wvs, W, nw, j1, j2, j3, j4, j5, j6, j7, hw, hwl, hIf, hb, hd⟩ D
  have D := D.tail
  have hcov : ∀ r ∈ d.roots, ∀ n ∈ r, n ∈ W := fun rt hr n m => by
    obtain ⟨jj, hjj⟩ := List.mem_iff_getElem?.mp hr
    obtain ⟨x, hxj, _⟩ := hx.get' hjj
    have hxo : x.2.1 ∈ out := hout.mem_iff.mpr (List.mem_map.mpr ⟨x, List.mem_of_getElem? hxj, rfl⟩)
    obtain ⟨j, hj⟩ := List.mem_iff_getElem?.mp hxo
    exact hd j x rt jj (by rw [List.length_map]; exact (List.getElem?_eq_some_iff.mp hj).1) hj hxj hjj n m
  have hwl9 : W.length ≤ 9 := by
    rw [List.length_map] at hwl
    have := hout.length_eq
    rw [List.length_map] at this
    omega
  clear hd hwl D5 D4
  -- the ports
  repeat walk_at "m.step"
  refine r_iter_listP (nm := nmN) (xs := ps.map Value.ref) HA'.hd (by walk_at "m.D")
    (WNd2 G' aW aN aD aR fo fc ffd work of_ oc oo d)
    (fun i g vs σ j => by cases j; exact .inl e4)
    ⟨wvs, W, nw, _, _, _, _, _, _, _, hw, hwl9, hb, hcov, fun j _ _ h => absurd h (Nat.not_lt_zero _)⟩ ?_ ?_
  · rintro R' i G' _ _ h tk v I oI hv ⟨wvs, W, nw, j1, j2, j3, j4, j5, j6, j7, hw, hwl, hb, hcov, hd⟩ D
    rw [List.getElem?_map] at hv
    obtain ⟨pa, hpa, rfl⟩ := Option.map_eq_some_iff.mp hv
    obtain ⟨k, hk, x, t, y, u, vt, np', ep⟩ := hps.get hpa
    have hkm := gd.pk k (List.mem_of_getElem? hk)
    have hi3 : i < 3 := Nat.lt_of_lt_of_le (List.getElem?_eq_some_iff.mp hk).1 gd.p3
    obtain ⟨ns, hns⟩ : ∃ ns, d.nets[k]? = some ns := ⟨d.nets[k]'(gd.nm ▸ hkm), by simp [gd.nm ▸ hkm]⟩
    obtain ⟨l, hlv, ys, nl, hl2, hys⟩ := hn k ns hns
    have hn4 := gd.n4 ns (List.mem_of_getElem? hns)
    have := hys.length
    have := hw.length
    refine r_untuple (items := [.str x t, .str y u, .int k vt]) HA'.hd D (.inl ep) rfl rfl fun h' D' => ?_
    repeat walk_at "m.step"
    walk_at "m.iditem"
    repeat walk_at "m.step"
    rename Mem _ _ _ _ _ _ => D₂
    refine Turn.next (own := [(I, oI)]) D₂ ⟨_, W ++ ns, _, _, _, _, _, _, _, _, hw.append hys, by rw [List.length_append]; omega, fun n m => ?_, fun r hr n m => List.mem_append_left _ (hcov r hr n m), fun j k' ns' hj hpj hnj n m => ?_⟩
    · exact (List.mem_append.mp m).elim (hb n) fun m => .port (List.mem_of_getElem? hk) hns m
    · rcases Nat.lt_succ_iff_lt_or_eq.mp hj with h | rfl
      · exact List.mem_append_left _ (hd j k' ns' h hpj hnj n m)
      · rw [hk] at hpj; cases hpj
        rw [hns] at hnj; cases hnj
        exact List.mem_append_right _ m
  rintro G' _ _ h tk ⟨wvs, W, nw, j1, j2, j3, j4, j5, j6, j7, hw, hwl, hb, hcov, hd⟩ D
  have hcop : ∀ k ∈ d.ports, ∀ ns, d.nets[k]? = some ns → ∀ n ∈ ns, n ∈ W := fun k hk ns hns n m => by
    obtain ⟨j, hj⟩ := List.mem_iff_getElem?.mp hk
    exact hd j k ns (by rw [List.length_map, hps.1]; exact (List.getElem?_eq_some_iff.mp hj).1) hj hns n m
  have hwl21 : W.length ≤ 21 := by
    rw [List.length_map, hps.1] at hwl
    have := gd.p3
    omega
  clear hd hwl
  repeat walk_at "m.step"
  refine r_iter_listP (nm := nmN) (xs := rs.map Value.ref) HA'.hd (by walk_at "m.D")
    (WNd3 G' aW aN aD aR fo fc ffd work oc oo w d)
    (fun i g vs σ j => by cases j; exact .inl e5)
    ⟨wvs, W, nw, of_, [], [], _, _, _, _, _, _, _, hw, hwl21, hIf, ⟨Nat.le_refl _, (fun x v e => (by cases e)), fun j r h => absurd h (Nat.not_lt_zero _)⟩, (fun x v e => (by cases e)), hb, hcov, hcop, fun j _ h => absurd h (Nat.not_lt_zero _)⟩ ?_ ?_
  · rintro R' i G' _ _ h tk v I oI hv ⟨wvs, W, nw, of_, fkvs, fl, j1, j2, j3, j4, j5, j6, j7, hw, hwl, hIf, hFT, hFp, hb, hcov, hcop, hd⟩ D
    rw [List.getElem?_map] at hv
    obtain ⟨ra, hra, rfl⟩ := Option.map_eq_some_iff.mp hv
    obtain ⟨r, hri, hrow⟩ := hrs.get hra
    obtain ⟨x, t, u, b, t', v, more, nrow, ea, _, _⟩ := id hrow
    have hkm := gd.wk r (List.mem_of_getElem? hri)
    have hi7 : i < 7 := Nat.lt_of_lt_of_le (List.getElem?_eq_some_iff.mp hri).1 gd.w7
    have hr4 := gd.w4 r (List.mem_of_getElem? hri)
    obtain ⟨p, hp⟩ : ∃ p, d.sigs[r.1]? = some p := ⟨d.sigs[r.1], by simp [hkm]⟩
    obtain ⟨a, hak⟩ : ∃ a, ss[r.1]? = some a := ⟨ss[r.1]'(sk.1 ▸ hkm), by simp [sk.1 ▸ hkm]⟩
    have hsig := sk.2 r.1 a p hak hp
    have hak' : (ss.map Value.ref)[(r.1 : Int).toNat]? = some (.ref a) := by simp [hak]
    have m7 := gd.m7
    have hf1 := hFT.1
    have := hw.length
    repeat walk_at "m.step"
    walk_at "m.rowat"
    refine l_item (by walk_at "m.D") (.inl e3) (by omega) (by omega) hak' ?_ (by with_unfolding_all rfl)
    repeat walk_at "m.step"
    refine ite_b (fun e => ?_) (fun e => ?_)
    · subst e
      repeat walk_at "m.step"
      walk_at "m.rowat"
      repeat walk_at "m.step"
      rename Mem _ _ _ _ _ _ => Dg
      refine id_get Dg (.inr (by walk_at "m.mem")) hIf fun tkg => ?_
      obtain ⟨l, yl, nl, hge, hmem, hyl⟩ := hFT.get Dg hp (fun p m => .tail _ (.tail _ (.tail _ (.tail _ (.tail _ (.tail _ m)))))) (.head _) rfl
      rw [hge]
      have hfe := feed_le gd (i := i) (k := r.1) (by have := (List.getElem?_eq_some_iff.mp hri).1; omega)
      have := hyl.length
      repeat walk_at "m.step"
      refine w_row_ins (by walk_at "m.room") Γ' (by walk_at "m.D") hrow fun t junk h2 tk2 ys n2 D2 kt hys => ?_
      have := hys.length
      repeat walk_at "m.step"
      refine cp_list (by walk_at "m.D") (.inr rfl) kt (by omega) fun r2 n3 h3 D3 => ?_
      repeat walk_at "m.step"
      refine l_add D3 (.inr (by walk_at "m.mem")) (.inr (.head _)) (by omega) fun r3 h4 D4 => ?_
      repeat walk_at "m.step"
      walk_at "m.rowat"
      repeat walk_at "m.step"
      walk_at "m.idset"
      repeat walk_at "m.step"
      rename Mem _ _ _ _ _ _ => D₂
      have D₃ := (D₂.sublist (.cons_cons _ (.cons _ ((List.sublist_cons_self _ _).trans (List.sublist_append_right junk _))))).perm (List.perm_middle (l₁ := [_, _, _, _, _])).symm
      refine Turn.next (own := [(I, oI)]) D₃ ⟨wvs, W, nw, _, _, (r3, _) :: fl, _, _, _, _, _, _, _, hw, by omega, by assumption, hFT.more hri (hyl.append hys), fun x v e k hk => ?_, hb, hcov, hcop, fun j r' hj hrj hpj => ?_⟩
      · rw [valueAt_stored] at e
        split at e
        · rename_i q
          obtain rfl : k = r.1 := by omega
          exact hp
        · exact hFp x v e k hk
      · rcases Nat.lt_succ_iff_lt_or_eq.mp hj with h | rfl
        · exact hd j r' h hrj hpj
        · rw [hri] at hrj; cases hrj
          rw [hp] at hpj; cases hpj
    · subst e
      repeat walk_at "m.step"
      refine w_row_ins (by walk_at "m.room") Γ' (by walk_at "m.D") hrow fun t junk h2 tk2 ys n2 D2 kt hys => ?_
      have := hys.length
      repeat walk_at "m.step"
      rename Mem _ _ _ _ _ _ => D₂
      refine Turn.next (own := [(I, oI)]) D₂.drop ⟨_, W ++ r.2, _, of_, fkvs, fl, _, _, _, _, _, _, _, hw.append hys, by rw [List.length_append]; omega, hIf, hFT.skip hri hp hFp, hFp, fun n m => ?_, fun r hr n m => List.mem_append_left _ (hcov r hr n m), fun k hk ns hns n m => List.mem_append_left _ (hcop k hk ns hns n m), fun j r' hj hrj hpj n m => ?_⟩
      · exact (List.mem_append.mp m).elim (hb n) fun m => .row (List.mem_of_getElem? hri) hp m
      · rcases Nat.lt_succ_iff_lt_or_eq.mp hj with h | rfl
        · exact List.mem_append_left _ (hd j r' h hrj hpj n m)
        · rw [hri] at hrj; cases hrj
          exact List.mem_append_right _ m
  rintro G' _ _ h tk ⟨wvs, W, nw, of_, fkvs, fl, j1, j2, j3, j4, j5, j6, j7, hw, hwl, hIf, hFT, hFp, hb, hcov, hcop, hd⟩ D
  have hlr : (rs.map Value.ref).length = d.rows.length := by rw [List.length_map]; exact hrs.1
  rw [hlr] at hFT hwl hd
  have hcor : ∀ r ∈ d.rows, d.sigs[r.1]? = some false → ∀ n ∈ r.2, n ∈ W := fun r hr hp n m => by
    obtain ⟨j, hj⟩ := List.mem_iff_getElem?.mp hr
    exact hd j r (List.getElem?_eq_some_iff.mp hj).1 hj hp n m
  have hwl49 : W.length ≤ 49 := by have := gd.w7; omega
  clear hd hwl
  repeat walk_at "m.step"
  rename Mem _ _ _ _ _ _ => Dw
  have hW0 : WInv d W (inK []) (inK []) := WInv.start hb (fun n b => by
    cases b with
    | drv hr m => exact hcov _ hr n m
    | port hk hns m => exact hcop _ hk _ hns n m
    | row hr hp m => exact hcor _ hr hp n m) (fun _ => rfl) (fun _ => rfl)
  have hunf : unf d (inK []) (inK []) ≤ 13 := by
    unfold unf
    have h1 := List.countP_le_length (p := fun c : Int × List Int => !(inK [] c.1)) (l := d.cells)
    have h2 := List.countP_le_length (p := fun k : Nat => !(inK [] (k : Int))) (l := List.range d.sigs.length)
    rw [List.length_range] at h2
    have := gd.c6
    have := gd.m7
    omega
  have hk7 : (List.range d.sigs.length).countP (fun k : Nat => !(inK [] (k : Int))) ≤ 7 := by
    have h2 := List.countP_le_length (p := fun k : Nat => !(inK [] (k : Int))) (l := List.range d.sigs.length)
    rw [List.length_range] at h2
    have := gd.m7
    omega
  refine r_while (nm := nmN) (WNd4 G' aW aN aD aR fo fc ffd work of_ oc oo fl w d)
    _ Dw ⟨wvs, W, nw, _, _, _, _, [], [], _, _, _, _, _, _, _, hw, by assumption, by assumption, hW0, rfl, by simp; omega, by simpa using hk7⟩ ?_
  rintro m G' _ _ h tk ⟨wvs, W, nw, sd, nd, os, on_, skvs, nkvs, j1, j2, j3, j4, j5, j6, j7, hw, hIs, hIn, hWI, hm, hsm, hn7⟩ D
  have hlw := hw.length
  have hz : wvs.length ≤ 2 ^ 20 := by omega
  repeat walk_at "m.step"
  refine ite_b (fun e => ?_) (fun e => ?_)
  · have hne : wvs ≠ [] := by rintro rfl; simp at e
    obtain ⟨ws, n, tn, W, rfl, rfl, hws⟩ := Mine.IntsAre.snoc_inv hw hne
    repeat walk_at "m.step"
    have lW : (W ++ [n]).length = W.length + 1 := by simp
    rw [lW] at hm
    refine l_pop (by walk_at "m.D") (by walk_at "m.mem") (by have := hws.length; omega) (fun h2 n2 H2 => ?_)
    walk_at "m.up"
    repeat walk_at "m.step"
    refine id_notin (by walk_at "m.D") (.inr (by walk_at "m.mem")) hIs fun tk2 => ?_
    repeat walk_at "m.step"
    refine ite_b (fun e1 => ?_) (fun e1 => ?_)
    · have hR0 : inK skvs n = false := by simpa using e1
      repeat walk_at "m.step"
      refine id_set (by walk_at "m.D") (by walk_at "m.mem") hIs (by omega) fun h3 tk3 os' hIs' H3 => ?_
      walk_at "m.up"
      have hR' : ∀ x, inK (stored skvs n (.bool true)) x = true ↔ x = n ∨ inK skvs x = true := fun x => inK_stored x
      have hs1 := stored_length_le skvs n (.bool true)
      repeat walk_at "m.step"
      rename Mem _ _ _ _ _ _ => Dg
      refine id_get Dg (.inr (by walk_at "m.mem")) hIc fun tkg => ?_
      obtain ⟨l, ys, nl, C, hge, hkn, hys, hC, hC2, hC0⟩ := CTab.get (n := n) Dg gd hCT (.head _) rfl
      rw [hge]
      have := hys.length
      have := hws.length
      repeat walk_at "m.step"
      refine i_neg fun t1 tk1 => ?_
      repeat walk_at "m.step"
      refine id_get (by walk_at "m.D") (.inr (by walk_at "m.mem")) hIo fun tk4 => ?_
      rcases hOT.get (n := n) (t := t1) with ⟨k, u, hge2, ho⟩ | ⟨hge2, hno⟩
      · rw [hge2]
        repeat walk_at "m.step"
        refine ite_b (fun e2 => ?_) (fun e2 => absurd (of_decide_eq_false e2) (by omega))
        repeat walk_at "m.step"
        refine id_notin (by walk_at "m.D") (.inr (by walk_at "m.mem")) hIn fun tk5 => ?_
        repeat walk_at "m.step"
        refine ite_b (fun e3 => ?_) (fun e3 => ?_)
        · have hN0 : inK nkvs k = false := by simpa using e3
          repeat walk_at "m.step"
          refine id_set (by walk_at "m.D") (by walk_at "m.mem") hIn (by omega) fun h6 tk6 on' hIn' H6 => ?_
          walk_at "m.up"
          repeat walk_at "m.step"
          rename Mem _ _ _ _ _ _ => Dg
          refine id_get Dg (.inr (by walk_at "m.mem")) hIf fun tkg => ?_
          obtain ⟨l, yl, nl, hge, hmem, hyl⟩ := hFT.get Dg ho.1 (fun p m => .tail _ (.tail _ (.tail _ (.tail _ (.tail _ (.tail _ (.tail _ (.tail _ m)))))))) (.head _) rfl
          rw [hge]
          have hfe := feed_le gd (i := d.rows.length) (k := k) (Nat.le_refl _)
          have hw7 := gd.w7
          have := hyl.length
          have hz2 : (ws ++ ys).length + yl.length ≤ 2 ^ 20 := by rw [List.length_append]; omega
          repeat walk_at "m.step"
          rename Mem _ _ _ _ _ _ => D₂
          have hN' : ∀ x, inK (stored nkvs (k : Int) (.bool true)) x = true ↔ inK nkvs x = true ∨ ∃ k' : Nat, x = k' ∧ Own' d k' n := fun x => by
            rw [inK_stored]
            exact ⟨fun h => h.elim (fun q => .inr ⟨k, q, ho⟩) .inl, fun h => h.elim .inr fun ⟨k', q, o'⟩ => .inl (by rw [gd.own_inj ho o']; exact q)⟩
          have hWI' := WInv.step (C := C) (F := feed d d.rows.length k) hWI hR' hC hN' (fun x m => let ⟨r, a, b, c⟩ := feed_all.mp m; ⟨k, ho, r, a, b, c⟩) (fun k' o' => .inr fun r hr e x m => by
            rw [gd.own_inj o' ho] at e; exact feed_all.mpr ⟨r, hr, e, m⟩)
          have hdec := unf_step (W := W) (C := C) (F := feed d d.rows.length k) hR0 hR' (fun x h => (hN' x).mpr (.inl h)) hC0 (by omega) (.inr ⟨k, ho.lt, hN0, (hN' _).mpr (.inr ⟨k, rfl, ho⟩)⟩) (by omega)
          rw [lW] at hdec
          have hcl : (List.range d.sigs.length).countP (fun k' : Nat => !(inK (stored nkvs (k : Int) (.bool true)) (k' : Int))) < (List.range d.sigs.length).countP (fun k' : Nat => !(inK nkvs (k' : Int))) :=
            countP_lt (fun x _ e => by
              simp only [Bool.not_eq_true'] at e ⊢
              cases q : inK nkvs (x : Int) with
              | false => rfl
              | true => rw [(hN' _).mpr (.inl q)] at e; cases e) ⟨k, List.mem_range.mpr ho.lt, by simp [(hN' (k : Int)).mpr (.inr ⟨k, rfl, ho⟩)], by simp [hN0]⟩
          have hn1 := stored_length_le nkvs (k : Int) (.bool true)
          exact ⟨rfl, _, _, _, _, _, _, rfl, by omega, D₂.tail.tail, _, W ++ C ++ feed d d.rows.length k, _, sd, nd, os', on', _, _, _, _, _, _, _, _, _, (hws.append hys).append hyl, hIs', hIn', hWI', rfl, by omega, by omega⟩
        · repeat walk_at "m.step"
          rename Mem _ _ _ _ _ _ => D₂
          have hN1 : inK nkvs k = true := by simpa using e3
          have hN' : ∀ x, inK nkvs x = true ↔ inK nkvs x = true ∨ ∃ k' : Nat, x = k' ∧ Own' d k' n := fun x =>
            ⟨.inl, fun h => h.elim id fun ⟨k', q, o'⟩ => by rw [q, ← gd.own_inj ho o']; exact hN1⟩
          have hWI' := WInv.step (C := C) (F := []) hWI hR' hC hN' (fun x m => nomatch m) (fun k' o' => .inl (by rw [← gd.own_inj ho o']; exact hN1))
          have hdec := unf_step (W := W) (C := C) (F := []) hR0 hR' (fun x h => h) hC0 (by omega) (.inl rfl) (by simp) (N := inK nkvs) (N' := inK nkvs)
          rw [lW] at hdec
          rw [List.append_nil] at hWI' hdec
          exact ⟨rfl, _, _, _, _, _, _, rfl, by omega, D₂.tail, _, W ++ C, _, sd, nd, os', on_, _, _, _, _, _, _, _, _, _, hws.append hys, hIs', hIn, hWI', rfl, by omega, hn7⟩
      · rw [hge2]
        repeat walk_at "m.step"
        refine ite_b (fun e2 => absurd (of_decide_eq_true e2) (by omega)) (fun e2 => ?_)
        repeat walk_at "m.step"
        rename Mem _ _ _ _ _ _ => D₂
        have hN' : ∀ x, inK nkvs x = true ↔ inK nkvs x = true ∨ ∃ k' : Nat, x = k' ∧ Own' d k' n := fun x => ⟨.inl, fun h => h.elim id fun ⟨k', _, o'⟩ => absurd o' (hno k')⟩
        have hWI' := WInv.step (C := C) (F := []) hWI hR' hC hN' (fun x m => nomatch m) (fun k' o' => absurd o' (hno k'))
        have hdec := unf_step (W := W) (C := C) (F := []) hR0 hR' (fun x h => h) hC0 (by omega) (.inl rfl) (by simp) (N := inK nkvs) (N' := inK nkvs)
        rw [lW] at hdec
        rw [List.append_nil] at hWI' hdec
        exact ⟨rfl, _, _, _, _, _, _, rfl, by omega, D₂.tail, _, W ++ C, _, sd, nd, os', on_, _, _, _, _, _, _, _, _, _, hws.append hys, hIs', hIn, hWI', rfl, by omega, hn7⟩
    · repeat walk_at "m.step"
      rename Mem _ _ _ _ _ _ => D₂
      have hR1 : inK skvs n = true := by simpa using e1
      exact ⟨rfl, _, _, _, _, _, _, rfl, by omega, D₂, ws, W, _, sd, nd, os, on_, skvs, nkvs, _, _, _, _, _, _, _, hws, hIs, hIn, hWI.seen hR1, rfl, by omega, hn7⟩
  · repeat walk_at "m.step"
    rename Mem _ _ _ _ _ _ => D₂
    have hW0 : W = [] := by
      have e' : ¬ (0 : Int) < (wvs.length : Int) := of_decide_eq_false e
      have : W.length = 0 := by omega
      exact List.length_eq_zero_iff.mp this
    subst hW0
    refine hR _ _ nd on_ nkvs (D₂.kept kg) (D₂.get (.tail _ (.head _))) (D₂.newer kg (.tail _ (.head _)) (by simp)) hIn (by omega) fun x => ?_
    rw [← hWI.fin x, ← valueAt_isSome]
/-! D7 -/
section
variable {w : World} {A : Around} {G : Gh} {L : Addr} {nm : List Str} {vs vs' : List (Option Value)} {σ σ' : List (Addr × Obj)} {h : Heap} {s₀ : Shared} {tk : Nat} {env : Env}
theorem w_needed {aD aN aW aR : Addr} {d : Data} {Q : Value → Shared → Prop} (HA : Room A 20) (Γ : Gnd w G) (D : Mem G L nm vs σ h) (hl : Laid w G d aD aN aW aR) (gd : Good d)
    (hQ : ∀ f o kvs h' tk', Mem G L nm vs ((f, o) :: σ) h' → ID w f o kvs → kvs.length ≤ 7 → (∀ x : Int, x ∈ kvs.map (·.1) ↔ ∃ k : Nat, x = (k : Int) ∧ Needed d k) → Q (.ref f) (S s₀ h' tk')) :
    wpAny (MM w) A (call (.ref 84) [.ref aW, .ref aN, .ref aD, .ref aR]) Q F0 (S s₀ h tk) :=
  wpAny_call (c_needed HA Γ D.keep hl gd fun h' tk' f o kvs kp hf hn hI h7 hN => hQ f o kvs h' tk' (D.fresh (fun b o e => kp b o e (by simp)) hf hn) hI h7 hN)
end

open Classical in
noncomputable def keepB (d : Data) (r : Nat × List Int) : Bool := decide (d.sigs[r.1]? ≠ some true ∨ Needed d r.1)
/-- the rows that are kept, of the first i -/
noncomputable def keptL (d : Data) (rs : List Addr) (i : Nat) : List Addr := (((rs.zip d.rows).take i).filter fun p => keepB d p.2).map (·.1)
theorem keptL_zero (d : Data) (rs : List Addr) : keptL d rs 0 = [] := rfl
theorem keptL_more {d : Data} {rs : List Addr} {i : Nat} {a : Addr} {r : Nat × List Int} (ha : rs[i]? = some a) (hr : d.rows[i]? = some r) : keptL d rs (i + 1) = keptL d rs i ++ (if keepB d r = true then [a] else []) := by
  have hz : (rs.zip d.rows)[i]? = some (a, r) := by
    rw [List.getElem?_zip_eq_some]; exact ⟨ha, hr⟩
  unfold keptL
  rw [List.take_add_one, hz, List.filter_append, List.map_append]
  congr 1
  by_cases e : keepB d r = true
  · simp [e]
  · simp [e]
theorem keptL_le {d : Data} {rs : List Addr} {i : Nat} : (keptL d rs i).length ≤ i := by
  unfold keptL
  rw [List.length_map]
  exact Nat.le_trans (List.length_filter_le _ _) (by rw [List.length_take]; omega)
abbrev nmK : List Str := [Str.ofString "wires", Str.ofString "netlist", Str.ofString "design", Str.ofString "rows", Str.ofString "needed", Str.ofString "kept", Str.ofString "row", Str.ofString "signal", Str.ofString "idle"]

theorem ite_t' {b : Bool} {P Q : Prop} (hb : b = true) (h : P) : if b = true then P else Q := by rw [if_pos hb]; exact h
inductive WKe1 (G' : Gh) (aW : Addr) (aN : Addr) (aD : Addr) (aR : Addr) (fn : Addr) (d : Data) (rs : List Addr) (on : Obj) (i : Nat) : Gh → List (Option Value) → List (Addr × Obj) → Prop
  | mk (l : Addr) (n : Nat) (j1 j2 j3 : Option Value) : WKe1 G' aW aN aD aR fn d rs on i G' [some (.ref aW), some (.ref aN), some (.ref aD), some (.ref aR), some (.ref fn), some (.ref l), j1, j2, j3] [(l, listOf ((keptL d rs i).map Value.ref).toArray n), (fn, on)]
theorem c_kept {w : World} {A : Around} {G : Gh} {h : Heap} {s₀ : Shared} {tk : Nat} {aD aN aW aR : Addr} {d : Data} {rs : List Addr} {nr : Nat} {R : Result → Shared → Prop}
    (HA : Room A 30) (Γ : Gnd w G) (kp : ∀ b o, G b = some o → h.get? b = some o) (hl : Laid w G d aD aN aW aR) (gd : Good d) (e5 : G aR = some (listOf (rs.map Value.ref).toArray nr)) (hrs : All2 (RowOK G) rs d.rows)
    (hR : ∀ h' tk' l n, Keep [] h h' → h'.get? l = some (listOf ((keptL d rs d.rows.length).map Value.ref).toArray n) → h.get? l = none → R (.ok (.ret (.ref l))) (S s₀ h' tk')) :
    codeAny (MM w) A (.call (.ref 91) ⟨[.ref aW, .ref aN, .ref aD, .ref aR], []⟩) R (S s₀ h tk) := by
  refine enter (f := 91) (W := []) (nm := nmK) (vs := [some (.ref aW), some (.ref aN), some (.ref aD), some (.ref aR), none, none, none, none, none]) (binds := [(Str.ofString "wires", .ref aW), (Str.ofString "netlist", .ref aN), (Str.ofString "design", .ref aD), (Str.ofString "rows", .ref aR)]) HA Γ kp rfl rfl (BindsTo.of_eq rfl) rfl rfl (by decide +kernel) ⟨rfl, rfl, rfl, rfl, trivial⟩ (fun p hp => nomatch hp) (by simp) ?_
  intro A' G' L h₁ tk₁ HA' Γ' kg D hA'
  have le : Le G G' := fun b o e => kg b o (kp b o e) (by simp)
  have hl := hl.mono le
  have e5 := le _ _ e5
  have hrs := hrs.mono fun _ _ => RowOK.mono le
  obtain ⟨dd, o, al, ap, e1, e2, f1, f2, ⟨ss, n, e3, sk⟩, ps, np, e4, hps⟩ := hl.design
  repeat walk_at "m.step"
  refine w_needed (by walk_at "m.room") Γ' (by walk_at "m.D") hl gd fun fn on nkvs h2 tk2 D2 hIn h7 hN => ?_
  repeat walk_at "m.step"
  rename Mem _ _ _ _ _ _ => D3
  refine r_iter_listP (nm := nmK) (xs := rs.map Value.ref) HA'.hd D3
    (WKe1 G' aW aN aD aR fn d rs on)
    (fun i g vs σ j => by cases j; exact .inl e5) ⟨_, _, _, _, _⟩ ?_ ?_
  · rintro R' i G' _ _ h tk v I oI hv ⟨l, nl, j1, j2, j3⟩ D
    rw [List.getElem?_map] at hv
    obtain ⟨ra, hra, rfl⟩ := Option.map_eq_some_iff.mp hv
    obtain ⟨r, hri, hrow⟩ := hrs.get hra
    obtain ⟨x, t, u, b, t', v, more, nrow, ea, _, _⟩ := id hrow
    have hkm := gd.wk r (List.mem_of_getElem? hri)
    have hi7 : i < 7 := Nat.lt_of_lt_of_le (List.getElem?_eq_some_iff.mp hri).1 gd.w7
    obtain ⟨p, hp⟩ : ∃ p, d.sigs[r.1]? = some p := ⟨d.sigs[r.1], by simp [hkm]⟩
    obtain ⟨a, hak⟩ : ∃ a, ss[r.1]? = some a := ⟨ss[r.1]'(sk.1 ▸ hkm), by simp [sk.1 ▸ hkm]⟩
    obtain ⟨dx, os, kd, t1, t2, v1, w1, w2, y1, y2, y3, y4, hv1, hpe⟩ := sk.2 r.1 a p hak hp
    have hak' : (ss.map Value.ref)[(r.1 : Int).toNat]? = some (.ref a) := by simp [hak]
    have m7 := gd.m7
    have hkl := keptL_le (d := d) (rs := rs) (i := i)
    have hmore := keptL_more hra hri
    have hneed : (valueAt nkvs (r.1 : Int)).isSome = true ↔ Needed d r.1 := by
      rw [valueAt_isSome, hN]
      exact ⟨fun ⟨k, e, z⟩ => by obtain rfl : r.1 = k := by omega
                                 exact z, fun z => ⟨_, rfl, z⟩⟩
    repeat walk_at "m.step"
    walk_at "m.rowat"
    refine l_item (by walk_at "m.D") (.inl e3) (by omega) (by omega) hak' ?_ (by with_unfolding_all rfl)
    have hkz : ((keptL d rs i).map Value.ref).length ≤ 2 ^ 20 := by rw [List.length_map]; omega
    have fin1 : keepB d r = true → ∀ {g : Gh} {vs : List (Option Value)} {σ : List (Addr × Obj)} {h : Heap} {n' : Nat}, Mem g L nmK vs ((I, oI) :: (l, listOf ((keptL d rs i).map Value.ref ++ [Value.ref ra]).toArray n') :: σ) h →
        Mem g L nmK vs ((I, oI) :: (l, listOf ((keptL d rs (i + 1)).map Value.ref).toArray n') :: σ) h := fun hk g vs σ h n' D => by
      rw [hmore, if_pos hk, List.map_append]
      exact D
    have keep1 : p = false → keepB d r = true := fun e => by unfold keepB; rw [hp, e]; simp
    have keep2 : p = true → (keepB d r = true ↔ Needed d r.1) := fun e => by unfold keepB; rw [hp, e]; simp
    have hv1' := handed_first hv1
    repeat walk_at "m.step"
    refine s_eq ?_
    repeat walk_at "m.step"
    refine ite_b (fun q => ?_) (fun q => ?_)
    · repeat walk_at "m.step"
      refine ite_b (fun q2 => ?_) (fun q2 => ?_)
      · repeat walk_at "m.step"
        walk_at "m.rowat"
        repeat walk_at "m.step"
        refine id_notin (by walk_at "m.D") (.inr (by walk_at "m.mem")) hIn fun tk5 => ?_
        repeat walk_at "m.step"
        have hpt : p = true := by rw [hpe]; show ((kd == kInteger) && _) = _; rw [show (kd == kInteger) = true from q]; simpa using q2
        refine ite_b (fun q3 => ?_) (fun q3 => ?_)
        · have hk : keepB d r = true := (keep2 hpt).mpr (hneed.mp (by simpa using q3))
          repeat walk_at "m.step"
          rename Mem _ _ _ _ _ _ => D₂
          exact Turn.next (own := [(I, oI)]) (fin1 hk D₂) ⟨l, _, _, _, _⟩
        · have hk : keepB d r = false := by
            cases z : keepB d r with
            | false => rfl
            | true => have := hneed.mpr ((keep2 hpt).mp z); rw [this] at q3; simp at q3
          repeat walk_at "m.step"
          rename Mem _ _ _ _ _ _ => D₂
          rw [hk] at hmore
          simp only [Bool.false_eq_true, if_false, List.append_nil] at hmore
          rw [← hmore] at D₂
          exact Turn.next (own := [(I, oI)]) D₂ ⟨l, _, _, _, _⟩
      · have hpf : p = false := by
          rw [hpe]; show ((kd == kInteger) && _) = _
          rw [show (kd == kInteger) = true from q]
          simpa using q2
        have hk := keep1 hpf
        repeat walk_at "m.step"
        rw [q2]
        repeat walk_at "m.step"
        rename Mem _ _ _ _ _ _ => D₂
        refine ite_t' (by rfl) ?_
        repeat walk_at "m.step"
        rename Mem _ _ _ _ _ _ => D₂
        exact Turn.next (own := [(I, oI)]) (fin1 hk D₂) ⟨l, _, _, _, _⟩
    · have hpf : p = false := by
        rw [hpe]; show ((kd == kInteger) && _) = _
        rw [show (kd == kInteger) = false from q]; rfl
      have hk := keep1 hpf
      repeat walk_at "m.step"
      rw [show (kd == Str.ofString "integer") = false from q]
      refine ite_t' (by rfl) ?_
      repeat walk_at "m.step"
      rename Mem _ _ _ _ _ _ => D₂
      exact Turn.next (own := [(I, oI)]) (fin1 hk D₂) ⟨l, _, _, _, _⟩
  · rintro _ _ _ h tk ⟨l, nl, j1, j2, j3⟩ D
    repeat walk_at "m.step"
    rename Mem _ _ _ _ _ _ => D₂
    have hlr : (rs.map Value.ref).length = d.rows.length := by rw [List.length_map]; exact hrs.1
    rw [hlr] at D₂
    exact hR _ _ l nl (D₂.kept kg) (D₂.get (.head _)) (D₂.newer kg (.head _) (by simp))
/-! E0 -/
section
variable {w : World} {A : Around} {G : Gh} {L : Addr} {nm : List Str} {vs vs' : List (Option Value)} {σ σ' : List (Addr × Obj)} {h : Heap} {s₀ : Shared} {tk : Nat} {env : Env} {E : Value → Shared → Prop}
theorem l_notin {l : Addr} {xs : List Value} {ns : List Int} {n : Nat} {k : Int} {t : Tok} {Q : Value → Shared → Prop} (D : Mem G L nm vs σ h) (kn : Knows G σ l (listOf xs.toArray n)) (hi : IntsAre xs ns)
    (hQ : Q (.bool (!decide (k ∈ ns))) (S s₀ h tk)) : wpAny (MM w) A (compareOp .NotIn (.int k t) (.ref l)) Q E (S s₀ h tk) := by
  refine notin_list_ints (s := S s₀ h tk) ⟨_, D.knows kn, rfl, n, rfl⟩ hi ?_
  have : (ns.any fun x => x == k) = decide (k ∈ ns) := by
    rw [Bool.eq_iff_iff]; simp
  rw [this]; exact hQ
theorem comp_if {c : Expr} {env' : Env} {Q : Bool → Shared → Prop} {s : Shared} (h : wpAny (MM w) A (isTrue c env' (eval c env')) Q E s) :
    wpAny (MM w) A (forIn [c] true fun c r => if r = true then do let ok ← isTrue c env' (eval c env'); pure (ForInStep.yield ok) else pure (ForInStep.yield r)) Q E s := by
  rw [List.forIn_cons]
  simp only [if_true]
  refine wpAny_bind (wpAny_bind (wpAny_mono h (fun b s' q => wpAny_pure ?_) fun _ _ e => e))
  dsimp only
  rw [List.forIn_nil]
  exact wpAny_pure q
theorem comp_noif {env' : Env} {Q : Bool → Shared → Prop} {s : Shared} (h : Q true s) :
    wpAny (MM w) A (forIn [] true fun c r => if r = true then do let ok ← isTrue c env' (eval c env'); pure (ForInStep.yield ok) else pure (ForInStep.yield r)) Q E s := by
  rw [List.forIn_nil]
  exact wpAny_pure h

/-- a comprehension over a list, that stores nothing -/
theorem r_comp_list {l : Addr} {xs : List Value} {n : Nat} {elt iter : Expr} {x : Str} {px : Pos} {ifs : List Expr} {scope : Scope} {cl : List (Str × Addr)} {pos : Pos} {RR : Value → Addr → Result → Shared → Prop} (hh : A.handled = none)
    (D : Mem G L nm vs σ h) (kn : Knows G σ l (listOf xs.toArray n)) (hn : xs.length ≤ 2 ^ 20) (P : Nat → List Value → Prop) (h0 : P 0 []) (hlen : ∀ i ys, P i ys → ys.length ≤ i)
    (turn : ∀ i Gc C nD ys h tk v I oI acc, xs[i]? = some v → P i ys → (∀ b o, G b = some o → Gc b = some o) → Mem Gc C [x] [some v] ((acc, listOf ys.toArray nD) :: (I, oI) :: σ) h →
      wpAny (MM w) A (forIn ifs true fun c r => if r = true then do let ok ← isTrue c (compEnvC scope cl C env) (eval c (compEnvC scope cl C env)); pure (ForInStep.yield ok) else pure (ForInStep.yield r))
        (fun ok s₃ => if ok = true then wpAny (MM w) A (eval elt (compEnvC scope cl C env)) (fun y s₄ => ∃ h tk, s₄ = S s₀ h tk ∧ Mem Gc C [x] [some v] ((acc, listOf ys.toArray nD) :: (I, oI) :: σ) h ∧ P (i + 1) (ys ++ [y])) F0 s₃
          else ∃ h tk, s₃ = S s₀ h tk ∧ Mem Gc C [x] [some v] ((acc, listOf ys.toArray nD) :: (I, oI) :: σ) h ∧ P (i + 1) ys) F0 (S s₀ h tk))
    (done : ∀ acc nD ys h tk C m, P xs.length ys → Mem G L nm vs ((acc, listOf ys.toArray nD) :: σ) h → h.Ns C m → Off C G L ((acc, listOf ys.toArray nD) :: σ) → RR (.ref acc) C (.ok .next) (S s₀ h tk))
    (hcell : ∀ y ∈ scope.names, y.2 ≠ .cell) (hkind : scope.kind = .function) (hx : scope.names.lookup x = some .local) :
    wpAny (MM w) A (pyIter (.ref l)) (fun it s₂ => wpAny (MM w) A (newList []) (fun acc s₃ => wpAny (MM w) A (newFunctionEnv scope env.globals cl [] env.qual none .none (some env)) (fun cenv s₄ =>
      codeAny (MM w) A (.compStart (.ListComp elt [⟨.Name x px, iter, ifs, 0⟩] scope pos) 0 it acc { cenv with scope := relabel scope env }) (RR acc cenv.locals) s₄) F0 s₃) F0 s₂) F0 (S s₀ h tk) := by
  have ol := D.knows kn
  have hl : (S s₀ h tk).heap.IsList l xs.toArray := ⟨_, ol, rfl, n, rfl⟩
  have hne : l ≠ h.objs.size := Nat.ne_of_lt (Heap.lt_size ol)
  refine wpAny_pyIter_list hl ?_
  have W := Walks.list (prog := PG) (w := w) hh h.objs.size l hne xs.toArray
  rw [List.size_toArray] at W
  refine r_comp W (fun i h st => st.1.elim fun o z => ⟨o, z.1⟩) (fun i ys σ' => σ' = σ ∧ P i ys) (fun b hb hn => ?_) (D.push { cls := .type "list_iterator", data := .fields #[.ref l, .int 0 0] }) ⟨⟨_, Heap.get?_push_size _ rfl, rfl, rfl⟩, hl.push _⟩ ⟨rfl, h0⟩ hn (fun i ys _ j => hlen i ys j.2)
    (fun i Gc C nD ys σ' h tk v oI acc hi hP hJ hG D => ?_) (fun acc nD ys σ' h tk C m hJ D hC hO => ?_) hcell hkind hx
  · rcases List.mem_cons.mp hb with e | e
    · exact absurd e hn
    · exact ⟨_, fun i ys σ' j => by rw [j.1, List.mem_singleton.mp e]; exact kn⟩
  · obtain ⟨e0, hP2⟩ := hJ
    rw [e0] at D
    refine wpAny_mono (turn i Gc C nD ys h tk v _ oI acc (by simpa using hP) hP2 hG D) (fun ok s₃ z => ?_) (fun _ _ e => e)
    cases ok with
    | true =>
      simp only [if_true] at z ⊢
      refine wpAny_mono z (fun y s₄ z => ?_) (fun _ _ e => e)
      obtain ⟨h, tk, e, D, p⟩ := z
      exact ⟨h, tk, _, e, D, rfl, p⟩
    | false =>
      simp only [Bool.false_eq_true, if_false] at z ⊢
      obtain ⟨h, tk, e, D, p⟩ := z
      exact ⟨h, tk, _, e, D, rfl, p⟩
  · obtain ⟨e0, hP2⟩ := hJ
    rw [e0] at D hO
    exact done acc nD ys h tk C m hP2 D hC hO
end
/-! E1 -/
section
variable {w : World} {A : Around} {G : Gh} {L : Addr} {nm nmR : List Str} {vs vs' vr : List (Option Value)} {jn : Option Value} {σ σ' pre post : List (Addr × Obj)} {h : Heap} {s₀ : Shared} {tk : Nat} {env : Env} {E : Value → Shared → Prop}
theorem Knows.mid {a rd : Addr} {o o' : Obj} (k : Knows G (pre ++ post) a o) : Knows G (pre ++ (rd, o') :: post) a o :=
  k.imp id fun m => (List.mem_append.mp m).elim (fun m => List.mem_append_left _ m) fun m => List.mem_append_right _ (.tail _ m)
theorem Knows.back {a rd : Addr} {o o' : Obj} (k : Knows G post a o) : Knows G (pre ++ (rd, o') :: post) a o := k.imp id fun m => List.mem_append_right _ (.tail _ m)
theorem Knows.cons {p : Addr × Obj} {a : Addr} {o : Obj} (k : Knows G σ a o) : Knows G (p :: σ) a o := k.imp id fun m => .tail _ m

/-- reached[net] = True -/
theorem mark_turn {I c rd : Addr} {oI oc o : Obj} {kvs : List (Int × Value)} {x : Int} {t : Tok} {p1 p2 p3 p4 p5 p6 : Pos} {J : Inv} {R : Result → Shared → Prop}
    (D : Mem G env.locals (Str.ofString "net" :: nmR) (jn :: vr) ((I, oI) :: (pre ++ (rd, o) :: post)) h) (kc : Knows G post c oc) (hoc : oc.data = .cell (some (.ref rd))) (hI : ID w rd o kvs) (hz : kvs.length ≤ 2 ^ 20)
    (hJ : ∀ o', ID w rd o' (stored kvs x (.bool true)) → J G (some (.int x t) :: vr) (pre ++ (rd, o') :: post))
    (hk : env.scope.kind = .function) (hn : env.kindOf "net" = some .local) (hr : env.kindOf "reached" = some .cell) (hc : env.cells.lookup (Str.ofString "reached") = some c) :
    wpAny (MM w) A (assign (.Name "net" p1) env (.int x t)) (fun _ s₂ => wpAny (MM w) A (execs [.Assign [.Subscript (.Name "reached" p2) (.Name "net" p3) p4] (.Constant (.bool true) 0 p5) p6] env) (Turn s₀ env.locals (Str.ofString "net" :: nmR) [(I, oI)] J R) F0 s₂) F0 (S s₀ h tk) := by
  refine wpAny_assign_Name (sto D .head (fun h2 tk2 D2 => ?_) hk hn)
  refine wpAny_execs_cons (wpAny_Assign_Subscript (cBool ?_) (by rfl))
  refine ldc D2 hc (kc.back.cons) hoc ?_ hk hr (by rfl)
  refine ld D2 .head ?_ hk hn (by rfl)
  refine id_set D2 (.tail _ (List.mem_append_right _ (.head _))) hI hz fun h3 tk3 o3 I3 H3 => ?_
  have D3 := H3 _ (.tail (Rep.app .head pre))
  exact wpAny_execs_nil (Turn.next (own := [(_, oI)]) D3 (hJ _ I3))

structure Marked (w : World) (rd : Addr) (kvs : List (Int × Value)) (ns : List Int) (o' : Obj) (kvs' : List (Int × Value)) : Prop where
  id : ID w rd o' kvs'
  inn : ∀ x, inK kvs' x = true ↔ inK kvs x = true ∨ x ∈ ns
  len : kvs'.length ≤ kvs.length + ns.length
theorem Marked.nil {rd : Addr} {kvs : List (Int × Value)} {o : Obj} (I : ID w rd o kvs) : Marked w rd kvs [] o kvs := ⟨I, fun x => by simp, Nat.le_refl _⟩
theorem Marked.more {rd : Addr} {kvs kvs' : List (Int × Value)} {ns : List Int} {i : Nat} {x : Int} {o' o2 : Obj} (M : Marked w rd kvs (ns.take i) o' kvs') (hx : ns[i]? = some x) (I : ID w rd o2 (stored kvs' x (.bool true))) : Marked w rd kvs (ns.take (i + 1)) o2 (stored kvs' x (.bool true)) := by
  refine ⟨I, fun y => ?_, ?_⟩
  · rw [inK_stored, M.inn, mem_take_succ hx]
    exact ⟨fun z => z.elim (fun e => .inr (.inr e)) fun z => z.elim .inl fun m => .inr (.inl m), fun z => z.elim (fun a => .inr (.inl a)) fun z => z.elim (fun m => .inr (.inr m)) .inl⟩
  · have h1 := stored_length_le kvs' x (.bool true)
    have h2 := M.len
    have h3 : (ns.take (i + 1)).length = (ns.take i).length + 1 := by
      have := (List.getElem?_eq_some_iff.mp hx).1
      rw [List.length_take, List.length_take]; omega
    omega

theorem mark_list {l c rd : Addr} {oc o : Obj} {ys : List Value} {ns : List Int} {n : Nat} {kvs : List (Int × Value)} {p1 p2 p3 p4 p5 p6 : Pos} {R : Result → Shared → Prop} (hh : A.handled = none)
    (D : Mem G env.locals (Str.ofString "net" :: nmR) (jn :: vr) (pre ++ (rd, o) :: post) h) (kn : Knows G (pre ++ post) l (listOf ys.toArray n)) (hi : IntsAre ys ns) (kc : Knows G post c oc) (hoc : oc.data = .cell (some (.ref rd))) (I : ID w rd o kvs) (hz : kvs.length + ns.length ≤ 2 ^ 20)
    (hR : ∀ h' tk' jn' o' kvs', Mem G env.locals (Str.ofString "net" :: nmR) (jn' :: vr) (pre ++ (rd, o') :: post) h' → Marked w rd kvs ns o' kvs' → R (.ok .next) (S s₀ h' tk'))
    (hk : env.scope.kind = .function) (hn : env.kindOf "net" = some .local) (hr : env.kindOf "reached" = some .cell) (hc : env.cells.lookup (Str.ofString "reached") = some c) :
    wpAny (MM w) A (pyIter (.ref l)) (fun it s₂ => codeAny (MM w) A (.forLoop (.Name "net" p1) it [.Assign [.Subscript (.Name "reached" p2) (.Name "net" p3) p4] (.Constant (.bool true) 0 p5) p6] [] env) R s₂) E (S s₀ h tk) := by
  refine r_iter_list (nm := Str.ofString "net" :: nmR) (xs := ys) hh D (fun i g vs σ => g = G ∧ ∃ jn' o' kvs', vs = jn' :: vr ∧ σ = pre ++ (rd, o') :: post ∧ Marked w rd kvs (ns.take i) o' kvs')
    (fun i g vs σ j => by obtain ⟨e, _, _, _, _, e2, _⟩ := j; rw [e, e2]; exact kn.mid) ⟨rfl, _, _, _, rfl, rfl, .nil I⟩ ?_ ?_
  · rintro i _ _ _ h tk v I2 oI2 hv ⟨e0, jn', o', kvs', rfl, rfl, M⟩ D
    rw [e0] at D
    obtain ⟨x, t, rfl, hx⟩ := hi.at i v hv
    have hlen : (ns.take i).length ≤ ns.length := by rw [List.length_take]; omega
    have := M.len
    exact mark_turn D kc hoc M.id (by omega) (fun o2 I3 => ⟨rfl, _, o2, _, rfl, rfl, M.more hx I3⟩) hk hn hr hc
  · rintro _ _ _ h tk ⟨e0, jn', o', kvs', rfl, rfl, M⟩ D
    rw [e0] at D
    rw [hi.length, List.take_length] at M
    exact hR _ _ _ _ _ D M
theorem mark_tuple {l c rd : Addr} {oc o : Obj} {ys : List Value} {ns : List Int} {n : Nat} {kvs : List (Int × Value)} {p1 p2 p3 p4 p5 p6 : Pos} {R : Result → Shared → Prop} (hh : A.handled = none)
    (D : Mem G env.locals (Str.ofString "net" :: nmR) (jn :: vr) (pre ++ (rd, o) :: post) h) (kn : Knows G (pre ++ post) l (tupOf ys.toArray n)) (hi : IntsAre ys ns) (kc : Knows G post c oc) (hoc : oc.data = .cell (some (.ref rd))) (I : ID w rd o kvs) (hz : kvs.length + ns.length ≤ 2 ^ 20)
    (hR : ∀ h' tk' jn' o' kvs', Mem G env.locals (Str.ofString "net" :: nmR) (jn' :: vr) (pre ++ (rd, o') :: post) h' → Marked w rd kvs ns o' kvs' → R (.ok .next) (S s₀ h' tk'))
    (hk : env.scope.kind = .function) (hn : env.kindOf "net" = some .local) (hr : env.kindOf "reached" = some .cell) (hc : env.cells.lookup (Str.ofString "reached") = some c) :
    wpAny (MM w) A (pyIter (.ref l)) (fun it s₂ => codeAny (MM w) A (.forLoop (.Name "net" p1) it [.Assign [.Subscript (.Name "reached" p2) (.Name "net" p3) p4] (.Constant (.bool true) 0 p5) p6] [] env) R s₂) E (S s₀ h tk) := by
  refine r_iter_tuple (nm := Str.ofString "net" :: nmR) (xs := ys) hh D (fun i g vs σ => g = G ∧ ∃ jn' o' kvs', vs = jn' :: vr ∧ σ = pre ++ (rd, o') :: post ∧ Marked w rd kvs (ns.take i) o' kvs')
    (fun i g vs σ j => by obtain ⟨e, _, _, _, _, e2, _⟩ := j; rw [e, e2]; exact kn.mid) ⟨rfl, _, _, _, rfl, rfl, .nil I⟩ ?_ ?_
  · rintro i _ _ _ h tk v I2 oI2 hv ⟨e0, jn', o', kvs', rfl, rfl, M⟩ D
    rw [e0] at D
    obtain ⟨x, t, rfl, hx⟩ := hi.at i v hv
    have hlen : (ns.take i).length ≤ ns.length := by rw [List.length_take]; omega
    have := M.len
    exact mark_turn D kc hoc M.id (by omega) (fun o2 I3 => ⟨rfl, _, o2, _, rfl, rfl, M.more hx I3⟩) hk hn hr hc
  · rintro _ _ _ h tk ⟨e0, jn', o', kvs', rfl, rfl, M⟩ D
    rw [e0] at D
    rw [hi.length, List.take_length] at M
    exact hR _ _ _ _ _ D M
end
/-! D8 -/
local macro_rules | `(tactic| walk_at "m.D") => `(tactic| first | with_reducible assumption | assumption)
abbrev nmL : List Str := [Str.ofString "net", Str.ofString "design", Str.ofString "netlist", Str.ofString "wires", Str.ofString "rows", Str.ofString "needed", Str.ofString "place_at", Str.ofString "port", Str.ofString "row", Str.ofString "lap", Str.ofString "cell", Str.ofString "key"]

inductive WLn1 (G' : Gh) (aD : Addr) (aN : Addr) (aW : Addr) (aR : Addr) (L : Addr) (w : World) (d : Data) (i : Nat) : Gh → List (Option Value) → List (Addr × Obj) → Prop
  | mk (rd : Addr) (o : Obj) (oc : Obj) (kvs : List (Int × Value)) (j1 j2 j3 j4 j5 j6 j7 j8 : Option Value) (h4 : oc.data = .cell (some (.ref rd))) (h5 : ID w rd o kvs) (h6 : kvs.length ≤ 3 * i) (h7 : (∀ x, inK kvs x = true → Base d x)) (h8 : ∀ (j : Nat) (rt : List Int), j < i → d.roots[j]? = some rt → ∀ n ∈ rt, inK kvs n = true) : WLn1 G' aD aN aW aR L w d i G' [j1, some (.ref aD), some (.ref aN), some (.ref aW), some (.ref aR), j2, j3, j4, j5, j6, j7, j8] ((rd, o) :: [(L + 1, oc)])
inductive WLn2 (G' : Gh) (aD : Addr) (aN : Addr) (aW : Addr) (aR : Addr) (rd : Addr) (L : Addr) (w : World) (d : Data) (i : Nat) : Gh → List (Option Value) → List (Addr × Obj) → Prop
  | mk (o : Obj) (oc : Obj) (kvs : List (Int × Value)) (j1 j2 j3 j4 j5 j6 j7 j8 : Option Value) (h4 : oc.data = .cell (some (.ref rd))) (h5 : ID w rd o kvs) (h6 : kvs.length ≤ 9 + 4 * i) (h7 : (∀ x, inK kvs x = true → Base d x)) (h8 : (∀ r ∈ d.roots, ∀ n ∈ r, inK kvs n = true)) (h9 : ∀ (j k : Nat) (ns : List Int), j < i → d.ports[j]? = some k → d.nets[k]? = some ns → ∀ n ∈ ns, inK kvs n = true) : WLn2 G' aD aN aW aR rd L w d i G' [j1, some (.ref aD), some (.ref aN), some (.ref aW), some (.ref aR), j2, j3, j4, j5, j6, j7, j8] ((rd, o) :: [(L + 1, oc)])
inductive WLn3 (G' : Gh) (aD : Addr) (aN : Addr) (aW : Addr) (aR : Addr) (rd : Addr) (L : Addr) (w : World) (d : Data) (i : Nat) : Gh → List (Option Value) → List (Addr × Obj) → Prop
  | mk (o : Obj) (oc : Obj) (kvs : List (Int × Value)) (j1 j2 j3 j4 j5 j6 j7 j8 : Option Value) (h4 : oc.data = .cell (some (.ref rd))) (h5 : ID w rd o kvs) (h6 : kvs.length ≤ 21 + 4 * i) (h7 : (∀ x, inK kvs x = true → Base d x)) (h8 : (∀ r ∈ d.roots, ∀ n ∈ r, inK kvs n = true)) (h9 : (∀ k ∈ d.ports, ∀ ns, d.nets[k]? = some ns → ∀ n ∈ ns, inK kvs n = true)) (h10 : ∀ (j : Nat) (r : Nat × List Int), j < i → d.rows[j]? = some r → d.sigs[r.1]? = some false → ∀ n ∈ r.2, inK kvs n = true) : WLn3 G' aD aN aW aR rd L w d i G' [j1, some (.ref aD), some (.ref aN), some (.ref aW), some (.ref aR), j2, j3, j4, j5, j6, j7, j8] ((rd, o) :: [(L + 1, oc)])
inductive WLn4 (G' : Gh) (aD : Addr) (aN : Addr) (aW : Addr) (aR : Addr) (rd : Addr) (L : Addr) (w : World) (d : Data) (j : Nat) : Gh → List (Option Value) → List (Addr × Obj) → Prop
  | mk (o : Obj) (oc : Obj) (lN : Addr) (ys : List Value) (ks : List Int) (nN : Nat) (kvs : List (Int × Value)) (j1 j2 j3 j4 j5 j6 j7 : Option Value) (h4 : oc.data = .cell (some (.ref rd))) (h5 : ID w rd o kvs) (h6 : kvs.length ≤ 49 + 1000 * j) (h7 : IntsAre ys ks) (h8 : ks.Nodup) (h9 : (∀ x ∈ ks, ∃ k : Nat, x = (k : Int) ∧ k < d.sigs.length)) (h10 : LInv d j (inK kvs) (fun k => (k : Int) ∈ ks)) : WLn4 G' aD aN aW aR rd L w d j G' [j1, some (.ref aD), some (.ref aN), some (.ref aW), some (.ref aR), some (.ref lN), j2, j3, j4, j5, j6, j7] ((rd, o) :: (L + 1, oc) :: [(lN, listOf ys.toArray nN)])
inductive WLn5 (G' : Gh) (aD : Addr) (aN : Addr) (aW : Addr) (aR : Addr) (lN : Addr) (I : Addr) (oI : Obj) (rd : Addr) (L : Addr) (ys : List Value) (nN : Nat) (w : World) (j : Nat) (R0 : Int → Bool) (d : Data) (i : Nat) : Gh → List (Option Value) → List (Addr × Obj) → Prop
  | mk (o : Obj) (oc : Obj) (kvs : List (Int × Value)) (j1 j2 j3 j4 j5 j6 j7 : Option Value) (h4 : oc.data = .cell (some (.ref rd))) (h5 : ID w rd o kvs) (h6 : kvs.length ≤ 49 + 1000 * j + 2 * i) (h7 : (∀ x, R0 x = true → inK kvs x = true)) (h8 : (∀ x, inK kvs x = true → Reach d x)) (h9 : ∀ (q : Nat) (c : Int × List Int), q < i → d.cells[q]? = some c → R0 c.1 = true → ∀ x ∈ c.2, inK kvs x = true) : WLn5 G' aD aN aW aR lN I oI rd L ys nN w j R0 d i G' [j1, some (.ref aD), some (.ref aN), some (.ref aW), some (.ref aR), some (.ref lN), j2, j3, j4, j5, j6, j7] ((I, oI) :: (rd, o) :: (L + 1, oc) :: [(lN, listOf ys.toArray nN)])
inductive WLn6 (G' : Gh) (aD : Addr) (aN : Addr) (aW : Addr) (aR : Addr) (lN : Addr) (I : Addr) (oI : Obj) (rd : Addr) (L : Addr) (w : World) (j : Nat) (d : Data) (ks : List Int) (R0 : Int → Bool) (i : Nat) : Gh → List (Option Value) → List (Addr × Obj) → Prop
  | mk (o : Obj) (oc : Obj) (ys : List Value) (ks1 : List Int) (nN : Nat) (kvs : List (Int × Value)) (j1 j2 j3 j4 j5 j6 j7 : Option Value) (h4 : oc.data = .cell (some (.ref rd))) (h5 : ID w rd o kvs) (h6 : kvs.length ≤ 61 + 1000 * j + 28 * i) (h7 : IntsAre ys ks1) (h8 : ks1.Nodup) (h9 : (∀ x ∈ ks1, ∃ k : Nat, x = (k : Int) ∧ k < d.sigs.length ∧ Needed d k)) (h10 : (∀ x ∈ ks, x ∈ ks1)) (h11 : (∀ x, R0 x = true → inK kvs x = true)) (h12 : (∀ x, inK kvs x = true → Reach d x)) (h13 : (∀ c ∈ d.cells, R0 c.1 = true → ∀ x ∈ c.2, inK kvs x = true)) (h14 : ∀ (k : Nat) (n : Int), k < i → Own' d k n → R0 n = true → (k : Int) ∈ ks1 ∧ ∀ r ∈ d.rows, r.1 = k → ∀ x ∈ r.2, inK kvs x = true) : WLn6 G' aD aN aW aR lN I oI rd L w j d ks R0 i G' [j1, some (.ref aD), some (.ref aN), some (.ref aW), some (.ref aR), some (.ref lN), j2, j3, j4, j5, j6, j7] ((I, oI) :: (rd, o) :: (L + 1, oc) :: [(lN, listOf ys.toArray nN)])
inductive WLn7 (G' : Gh) (aD : Addr) (aN : Addr) (aW : Addr) (aR : Addr) (lN : Addr) (i : Nat) (ti : Tok) (I2 : Addr) (oI2 : Obj) (I : Addr) (oI : Obj) (rd : Addr) (L : Addr) (ys2 : List Value) (nN2 : Nat) (w : World) (j : Nat) (R0 : Int → Bool) (d : Data) (ks1 : List Int) (q : Nat) : Gh → List (Option Value) → List (Addr × Obj) → Prop
  | mk (o : Obj) (oc : Obj) (kvs : List (Int × Value)) (j1 j2 j3 j4 j5 j6 : Option Value) (h4 : oc.data = .cell (some (.ref rd))) (h5 : ID w rd o kvs) (h6 : kvs.length ≤ 61 + 1000 * j + 28 * i + 4 * q) (h7 : (∀ x, R0 x = true → inK kvs x = true)) (h8 : (∀ x, inK kvs x = true → Reach d x)) (h9 : (∀ c ∈ d.cells, R0 c.1 = true → ∀ x ∈ c.2, inK kvs x = true)) (h10 : (∀ (k : Nat) (n : Int), k < i → Own' d k n → R0 n = true → (k : Int) ∈ ks1 ∧ ∀ r ∈ d.rows, r.1 = k → ∀ x ∈ r.2, inK kvs x = true)) (h11 : ∀ (z : Nat) (r : Nat × List Int), z < q → d.rows[z]? = some r → r.1 = i → ∀ x ∈ r.2, inK kvs x = true) : WLn7 G' aD aN aW aR lN i ti I2 oI2 I oI rd L ys2 nN2 w j R0 d ks1 q G' [j1, some (.ref aD), some (.ref aN), some (.ref aW), some (.ref aR), some (.ref lN), j2, j3, j4, j5, j6, some (.int (i : Nat) ti)] ((I2, oI2) :: (I, oI) :: (rd, o) :: (L + 1, oc) :: [(lN, listOf ys2.toArray nN2)])
theorem c_law_needed {w : World} {A : Around} {G : Gh} {h : Heap} {s₀ : Shared} {tk : Nat} {aD aN aW aR : Addr} {d : Data} {R : Result → Shared → Prop}
    (HA : Room A 30) (Γ : Gnd w G) (kp : ∀ b o, G b = some o → h.get? b = some o) (hl : Laid w G d aD aN aW aR) (gd : Good d)
    (hR : ∀ h' tk' l ys ks n, Keep [] h h' → h'.get? l = some (listOf ys.toArray n) → h.get? l = none → IntsAre ys ks → ks.Nodup → ks.length ≤ 7 → (∀ x : Int, x ∈ ks ↔ ∃ k : Nat, x = (k : Int) ∧ Needed d k) → R (.ok (.ret (.ref l))) (S s₀ h' tk')) :
    codeAny (MM w) A (.call (.ref 332) ⟨[.ref aD, .ref aN, .ref aW, .ref aR], []⟩) R (S s₀ h tk) := by
  refine enterC (f := 332) (W := []) (nm := nmL) (vs := [none, some (.ref aD), some (.ref aN), some (.ref aW), some (.ref aR), none, none, none, none, none, none, none]) (binds := [(Str.ofString "design", .ref aD), (Str.ofString "netlist", .ref aN), (Str.ofString "wires", .ref aW), (Str.ofString "rows", .ref aR)]) HA Γ kp rfl rfl (BindsTo.of_eq rfl) ?_ ?_ (by decide +kernel) (fun L' => ?_) (fun p hp => nomatch hp) (by simp) ?_
  · intro n x hx
    simp only [List.mem_cons, List.not_mem_nil, or_false] at hx
    rcases hx with rfl | rfl | rfl | rfl <;> exact .inl rfl
  · decide +kernel
  · exact ⟨rfl, rfl, rfl, rfl, trivial⟩
  intro A' G' L h₁ tk₁ cells HA' Γ' kg hcl _ D
  obtain ⟨oc, rfl, hoc⟩ := CellsAre.one (n := Str.ofString "reached") (c := L + 1) hcl
  have D : Mem G' L nmL _ [(L + 1, oc)] h₁ := D
  have le : Le G G' := fun b o e => kg b o (kp b o e) (by simp)
  have hl := hl.mono le
  have hD : DesignOK G' d aD := hl.design
  obtain ⟨dd, o, al, ap, e1, e2, f1, f2, ⟨ss, n, e3, sk⟩, ps, np, e4, hps⟩ := hl.design
  obtain ⟨dn, onn, ac, c1, c2, c3, cs, nc, c4, hcs⟩ := hl.netlist
  obtain ⟨dw, ow, an, ad, g1, g2, q1, q2, ⟨on, nvs, g3, hI, hnl, hn⟩, od, xs, g4, hT, hx⟩ := hl.wires
  obtain ⟨rs, nr, e5, hrs⟩ := hl.rows
  have hxn : (xs.map (·.1)).Nodup := by obtain ⟨_, _, _, _, _, _, z⟩ := hT; exact z
  have hTK : ∀ σ, TKs w G' σ xs := fun σ x m => by
    obtain ⟨i, hi⟩ := List.mem_iff_getElem?.mp m
    obtain ⟨_, _, ⟨o, a, _, b⟩, _⟩ := hx.get hi
    exact ⟨o, .inl a, b⟩
  have hu : A'.units + 1 < cLine := by have := HA'.units; show A'.units + 1 < 9900; omega
  have hh := HA'.hd
  have m7 := gd.m7
  repeat walk_at "m.step"
  refine stc (by walk_at "m.D") rfl (.tail _ (.head _)) hoc (fun h2 tk2 oc' hoc' H2 => ?_) rfl rfl
  have D := H2 _ (.tail .head)
  rename ID w _ _ [] => hI0
  clear H2 hoc
  -- the drivers
  repeat walk_at "m.step"
  refine r_iter_tdP (nm := nmL) hh D hT
    (WLn1 G' aD aN aW aR L w d)
    (fun i g vs σ j => by cases j; exact .inl g4)
    ⟨_, _, oc', [], _, _, _, _, _, _, _, _, hoc', hI0, Nat.le_refl _, (fun x e => (by cases e)), fun j _ h => absurd h (Nat.not_lt_zero _)⟩ ?_ ?_
  · rintro R' i G' _ _ h tk x I oI hxi ⟨rd, o, oc, kvs, j1, j2, j3, j4, j5, j6, j7, j8, hoc, hIr, hkl, hb, hd⟩ D
    obtain ⟨rt, hrt, ⟨ok, hok, _, hto⟩, l, hl1, ys, nl, hl2, hys⟩ := hx.get hxi
    have hak : atKey xs x.1 = some x.2 := atKey_of_get hxn hxi
    have hi3 : i < 3 := by have := (List.getElem?_eq_some_iff.mp hrt).1; have := gd.r3; omega
    have hr3 := gd.rl rt (List.mem_of_getElem? hrt)
    repeat walk_at "m.step"
    refine td_item hu (by walk_at "m.D") (.inl g4) hT (hTK _) (.inl hok) hto hak (fun tk => ?_) (by with_unfolding_all rfl)
    rw [hl1]
    rename Mem _ _ _ _ _ _ => D1
    refine mark_list (pre := [(I, oI)]) (post := [(L + 1, oc)]) hh D1 (.inl hl2) hys (.inr (.head _)) hoc hIr (by omega) (fun h' tk' jn' o' kvs' D' M => ?_) rfl rfl rfl rfl
    have := M.len
    repeat walk_at "m.step"
    refine Turn.next (own := [(I, oI)]) D' ⟨rd, o', oc, kvs', _, _, _, _, _, _, _, _, hoc, M.id, by omega, fun y hy => ?_, fun j rt' hj hrj n m => ?_⟩
    · exact ((M.inn y).mp hy).elim (hb y) fun m => .drv (List.mem_of_getElem? hrt) m
    · rcases Nat.lt_succ_iff_lt_or_eq.mp hj with h | rfl
      · exact (M.inn n).mpr (.inl (hd j rt' h hrj n m))
      · rw [hrt] at hrj; cases hrj
        exact (M.inn n).mpr (.inr m)
  rintro G' _ _ h tk ⟨rd, o, oc, kvs, j1, j2, j3, j4, j5, j6, j7, j8, hoc, hIr, hkl, hb, hd⟩ D
  have hcov : ∀ r ∈ d.roots, ∀ n ∈ r, inK kvs n = true := fun rt hr n m => by
    obtain ⟨j, hj⟩ := List.mem_iff_getElem?.mp hr
    exact hd j rt (by rw [hx.1]; exact (List.getElem?_eq_some_iff.mp hj).1) hj n m
  have hk9 : kvs.length ≤ 9 := by have := hx.1; have := gd.r3; omega
  clear hd hkl
  repeat walk_at "m.step"
  refine r_iter_listP (nm := nmL) (xs := ps.map Value.ref) hh (by walk_at "m.D")
    (WLn2 G' aD aN aW aR rd L w d)
    (fun i g vs σ j => by cases j; exact .inl e4)
    ⟨_, oc, kvs, _, _, _, _, _, _, _, _, hoc, hIr, hk9, hb, hcov, fun j _ _ h => absurd h (Nat.not_lt_zero _)⟩ ?_ ?_
  · rintro R' i G' _ _ h tk v I oI hv ⟨o, oc, kvs, j1, j2, j3, j4, j5, j6, j7, j8, hoc, hIr, hkl, hb, hcov, hd⟩ D
    rw [List.getElem?_map] at hv
    obtain ⟨pa, hpa, rfl⟩ := Option.map_eq_some_iff.mp hv
    obtain ⟨k, hk, x, t, y, u, vt, np', ep⟩ := hps.get hpa
    have hkm := gd.pk k (List.mem_of_getElem? hk)
    have hi3 : i < 3 := Nat.lt_of_lt_of_le (List.getElem?_eq_some_iff.mp hk).1 gd.p3
    obtain ⟨ns, hns⟩ : ∃ ns, d.nets[k]? = some ns := ⟨d.nets[k]'(gd.nm ▸ hkm), by simp [gd.nm ▸ hkm]⟩
    obtain ⟨l, hlv, ys, nl, hl2, hys⟩ := hn k ns hns
    have hn4 := gd.n4 ns (List.mem_of_getElem? hns)
    repeat walk_at "m.step"
    refine t_at (xs := [.str x t, .str y u, .int k vt]) (by walk_at "m.D") (.inl ep) (j := 2) rfl (by omega) rfl ?_ (by with_unfolding_all rfl)
    walk_at "m.iditem"
    rename Mem _ _ _ _ _ _ => D1
    refine mark_list (pre := [(I, oI)]) (post := [(L + 1, oc)]) hh D1 (.inl hl2) hys (.inr (.head _)) hoc hIr (by omega) (fun h' tk' jn' o' kvs' D' M => ?_) rfl rfl rfl rfl
    have := M.len
    repeat walk_at "m.step"
    refine Turn.next (own := [(I, oI)]) D' ⟨o', oc, kvs', _, _, _, _, _, _, _, _, hoc, M.id, by omega, fun y hy => ?_, fun r hr n m => (M.inn n).mpr (.inl (hcov r hr n m)), fun j k' ns' hj hpj hnj n m => ?_⟩
    · exact ((M.inn y).mp hy).elim (hb y) fun m => .port (List.mem_of_getElem? hk) hns m
    · rcases Nat.lt_succ_iff_lt_or_eq.mp hj with h | rfl
      · exact (M.inn n).mpr (.inl (hd j k' ns' h hpj hnj n m))
      · rw [hk] at hpj; cases hpj
        rw [hns] at hnj; cases hnj
        exact (M.inn n).mpr (.inr m)
  rintro G' _ _ h tk ⟨o, oc, kvs, j1, j2, j3, j4, j5, j6, j7, j8, hoc, hIr, hkl, hb, hcov, hd⟩ D
  have hcop : ∀ k ∈ d.ports, ∀ ns, d.nets[k]? = some ns → ∀ n ∈ ns, inK kvs n = true := fun k hk ns hns n m => by
    obtain ⟨j, hj⟩ := List.mem_iff_getElem?.mp hk
    exact hd j k ns (by rw [List.length_map, hps.1]; exact (List.getElem?_eq_some_iff.mp hj).1) hj hns n m
  have hk21 : kvs.length ≤ 21 := by
    rw [List.length_map, hps.1] at hkl
    have := gd.p3
    omega
  clear hd hkl
  repeat walk_at "m.step"
  refine r_iter_listP (nm := nmL) (xs := rs.map Value.ref) hh (by walk_at "m.D")
    (WLn3 G' aD aN aW aR rd L w d)
    (fun i g vs σ j => by cases j; exact .inl e5)
    ⟨_, oc, kvs, _, _, _, _, _, _, _, _, hoc, hIr, hk21, hb, hcov, hcop, fun j _ h => absurd h (Nat.not_lt_zero _)⟩ ?_ ?_
  · rintro R' i G' _ _ h tk v I oI hv ⟨o, oc, kvs, j1, j2, j3, j4, j5, j6, j7, j8, hoc, hIr, hkl, hb, hcov, hcop, hd⟩ D
    rw [List.getElem?_map] at hv
    obtain ⟨ra, hra, rfl⟩ := Option.map_eq_some_iff.mp hv
    obtain ⟨r, hri, hrow⟩ := hrs.get hra
    obtain ⟨x, t, u, b, t', v, more, nrow, ea, _, _⟩ := id hrow
    have hkm := gd.wk r (List.mem_of_getElem? hri)
    have hi7 : i < 7 := Nat.lt_of_lt_of_le (List.getElem?_eq_some_iff.mp hri).1 gd.w7
    have hr4 := gd.w4 r (List.mem_of_getElem? hri)
    obtain ⟨p, hp⟩ : ∃ p, d.sigs[r.1]? = some p := ⟨d.sigs[r.1], by simp [hkm]⟩
    repeat walk_at "m.step"
    walk_at "m.rowat"
    repeat walk_at "m.step"
    refine w_plain (by walk_at "m.room") Γ' (by walk_at "m.D") hD hp (by omega) fun h2 tk2 D2 => ?_
    repeat walk_at "m.step"
    refine ite_b (fun e => ?_) (fun e => ?_)
    · obtain rfl : p = false := by simpa using e
      repeat walk_at "m.step"
      refine w_taken (by walk_at "m.room") Γ' (by walk_at "m.D") hrow (by omega) fun t h3 tk3 ys n3 D3 hys => ?_
      repeat walk_at "m.step"
      refine mark_list (pre := [(t, _), (I, oI)]) (post := [(L + 1, oc)]) hh D3 (.inr (.head _)) hys (.inr (.head _)) hoc hIr (by omega) (fun h' tk' jn' o' kvs' D' M => ?_) rfl rfl rfl rfl
      have D' := Mem.tail D'
      have := M.len
      repeat walk_at "m.step"
      refine Turn.next (own := [(I, oI)]) D' ⟨o', oc, kvs', _, _, _, _, _, _, _, _, hoc, M.id, by omega, fun y hy => ?_, fun r hr n m => (M.inn n).mpr (.inl (hcov r hr n m)), fun k hk ns hns n m => (M.inn n).mpr (.inl (hcop k hk ns hns n m)), fun j r' hj hrj hpj n m => ?_⟩
      · exact ((M.inn y).mp hy).elim (hb y) fun m => .row (List.mem_of_getElem? hri) hp m
      · rcases Nat.lt_succ_iff_lt_or_eq.mp hj with h | rfl
        · exact (M.inn n).mpr (.inl (hd j r' h hrj hpj n m))
        · rw [hri] at hrj; cases hrj
          exact (M.inn n).mpr (.inr m)
    · obtain rfl : p = true := by simpa using e
      repeat walk_at "m.step"
      rename Mem _ _ _ _ _ _ => D₂
      refine Turn.next (own := [(I, oI)]) D₂ ⟨o, oc, kvs, _, _, _, _, _, _, _, _, hoc, hIr, by omega, hb, hcov, hcop, fun j r' hj hrj hpj n m => ?_⟩
      rcases Nat.lt_succ_iff_lt_or_eq.mp hj with h | rfl
      · exact hd j r' h hrj hpj n m
      · rw [hri] at hrj; cases hrj
        rw [hp] at hpj; cases hpj
  rintro G' _ _ h tk ⟨o, oc, kvs, j1, j2, j3, j4, j5, j6, j7, j8, hoc, hIr, hkl, hb, hcov, hcop, hd⟩ D
  have hlr : (rs.map Value.ref).length = d.rows.length := by rw [List.length_map]; exact hrs.1
  rw [hlr] at hkl hd
  have hcor : ∀ r ∈ d.rows, d.sigs[r.1]? = some false → ∀ n ∈ r.2, inK kvs n = true := fun r hr hp n m => by
    obtain ⟨j, hj⟩ := List.mem_iff_getElem?.mp hr
    exact hd j r (List.getElem?_eq_some_iff.mp hj).1 hj hp n m
  have hk49 : kvs.length ≤ 49 := by have := gd.w7; omega
  clear hd hkl
  repeat walk_at "m.step"
  have hcs6 := gd.c6
  have hcl := hcs.1
  have hsl := sk.1
  refine l_len (xs := cs.map Value.ref) (by walk_at "m.D") (.inl c4) (by rw [List.length_map]; omega) fun t1 tk1 => ?_
  repeat walk_at "m.step"
  refine l_len (xs := ss.map Value.ref) (by walk_at "m.D") (.inl e3) (by rw [List.length_map]; omega) fun t2 tk2 => ?_
  repeat walk_at "m.step"
  rename Mem _ _ _ _ _ _ => D0
  have D0 := D0.perm (σ' := (rd, o) :: (L + 1, oc) :: [(_, listOf #[] 0)]) (List.perm_append_comm (l₁ := [_]) (l₂ := [_, _]))
  rename_i tz _
  rw [show (((cs.map Value.ref).length : Nat) : Int) + (((ss.map Value.ref).length : Nat) : Int) + 1 = ((d.cells.length + d.sigs.length + 1 : Nat) : Int) by rw [List.length_map, List.length_map, hcl, hsl]; push_cast; rfl]
  refine r_iter_rangeP (n := d.cells.length + d.sigs.length + 1) (nm := nmL) (by omega) hh D0
    (WLn4 G' aD aN aW aR rd L w d)
    ⟨o, oc, _, [], [], 0, kvs, _, _, _, _, _, _, _, hoc, hIr, hk49, .nil, List.nodup_nil, (fun x m => nomatch m), ⟨fun n b => ?_, fun n h => .base (hb n h), (fun k m => nomatch m), .inr (Nat.zero_le _)⟩⟩ ?_ ?_
  · cases b with
    | drv hr m => exact hcov _ hr n m
    | port hk hns m => exact hcop _ hk _ hns n m
    | row hr hp m => exact hcor _ hr hp n m
  · rintro R' j G' _ _ h tk tl I oI hj ⟨o, oc, lN, ys, ks, nN, kvs, j1, j2, j3, j4, j5, j6, j7, hoc, hIr, hkl, hys, hnd, hkr, hLI⟩ D
    have hjn : j < 14 := by omega
    have hK7 : ∀ ks' : List Int, ks'.Nodup → (∀ x ∈ ks', ∃ k : Nat, x = (k : Int) ∧ k < d.sigs.length) → ks'.length ≤ d.sigs.length := fun ks' h1 h2 => by
      have := h1.length_le_of_subset (l₂ := (List.range d.sigs.length).map fun k : Nat => (k : Int)) fun x m => by
        obtain ⟨k, rfl, hk⟩ := h2 x m
        exact List.mem_map.mpr ⟨k, List.mem_range.mpr hk, rfl⟩
      rwa [List.length_map, List.length_range] at this
    have hR0 : ∀ x, inK kvs x = true → Reach d x := hLI.rS
    generalize hR0e : inK kvs = R0 at *
    repeat walk_at "m.step"
    -- the cells of a lap
    refine r_iter_listP (nm := nmL) (xs := cs.map Value.ref) hh (by walk_at "m.D")
      (WLn5 G' aD aN aW aR lN I oI rd L ys nN w j R0 d)
      (fun i g vs σ j => by cases j; exact .inl c4)
      ⟨o, oc, kvs, _, _, _, _, _, _, _, hoc, hIr, hkl, (fun x h => by rw [hR0e]; exact h), (fun x h => hR0 x (by rw [← hR0e]; exact h)), fun q _ h => absurd h (Nat.not_lt_zero _)⟩ ?_ ?_
    · rintro R' i G' _ _ h tk v I2 oI2 hv ⟨o, oc, kvs, j1, j2, j3, j4, j5, j6, j7, hoc, hIr, hkl, hup, hre, hd⟩ D
      rw [List.getElem?_map] at hv
      obtain ⟨ca, hca, rfl⟩ := Option.map_eq_some_iff.mp hv
      obtain ⟨c, hci, x, t, u, ai, n', ec, ys2, n2, hai, hys2⟩ := hcs.get hca
      have hcm := List.mem_of_getElem? hci
      have hi6 : i < 6 := Nat.lt_of_lt_of_le (List.getElem?_eq_some_iff.mp hci).1 gd.c6
      have hi2 := gd.i2 c hcm
      repeat walk_at "m.step"
      refine t_at (xs := [.str x t, .int c.1 u, .ref ai, .none]) (by walk_at "m.D") (.inl ec) (j := 1) rfl (by omega) rfl ?_ (by with_unfolding_all rfl)
      repeat walk_at "m.step"
      refine id_in (by walk_at "m.D") (.inr (by walk_at "m.mem")) hIr fun tk3 => ?_
      repeat walk_at "m.step"
      refine ite_b (fun e => ?_) (fun e => ?_)
      · repeat walk_at "m.step"
        refine t_at (xs := [.str x t, .int c.1 u, .ref ai, .none]) (by walk_at "m.D") (.inl ec) (j := 2) rfl (by omega) rfl ?_ (by with_unfolding_all rfl)
        rename Mem _ _ _ _ _ _ => D1
        refine mark_tuple (pre := [(I2, oI2), (I, oI)]) (post := (L + 1, oc) :: [(lN, listOf ys.toArray nN)]) hh D1 (.inl hai) hys2 (.inr (.head _)) hoc hIr (by omega) (fun h' tk' jn' o' kvs' D' M => ?_) rfl rfl rfl rfl
        have := M.len
        repeat walk_at "m.step"
        refine Turn.next (own := [(I2, oI2)]) D' ⟨o', oc, kvs', _, _, _, _, _, _, _, hoc, M.id, by omega, fun y hy => (M.inn y).mpr (.inl (hup y hy)), fun y hy => ?_, fun q c' hq hcq hr0 y hy => ?_⟩
        · exact ((M.inn y).mp hy).elim (hre y) fun m => .cell hcm (hre _ e) m
        · rcases Nat.lt_succ_iff_lt_or_eq.mp hq with h | rfl
          · exact (M.inn y).mpr (.inl (hd q c' h hcq hr0 y hy))
          · rw [hci] at hcq; cases hcq
            exact (M.inn y).mpr (.inr hy)
      · repeat walk_at "m.step"
        rename Mem _ _ _ _ _ _ => D₂
        refine Turn.next (own := [(I2, oI2)]) D₂ ⟨o, oc, kvs, _, _, _, _, _, _, _, hoc, hIr, by omega, hup, hre, fun q c' hq hcq hr0 y hy => ?_⟩
        rcases Nat.lt_succ_iff_lt_or_eq.mp hq with h | rfl
        · exact hd q c' h hcq hr0 y hy
        · rw [hci] at hcq; cases hcq
          have := hup _ hr0
          rw [show inK kvs c.1 = false from e] at this; cases this
    rintro G' _ _ h tk ⟨o, oc, kvs, j1, j2, j3, j4, j5, j6, j7, hoc, hIr, hkl, hup, hre, hd⟩ D
    rw [List.length_map, hcl] at hd hkl
    have hcell : ∀ c ∈ d.cells, R0 c.1 = true → ∀ x ∈ c.2, inK kvs x = true := fun c hc => by
      obtain ⟨q, hq⟩ := List.mem_iff_getElem?.mp hc
      exact hd q c (List.getElem?_eq_some_iff.mp hq).1 hq
    have hkl12 : kvs.length ≤ 61 + 1000 * j := by omega
    clear hd hkl
    repeat walk_at "m.step"
    refine l_len (xs := ss.map Value.ref) (by walk_at "m.D") (.inl e3) (by rw [List.length_map]; omega) fun t3 tk3 => ?_
    repeat walk_at "m.step"
    rename Mem _ _ _ _ _ _ => D0
    rw [show (((ss.map Value.ref).length : Nat) : Int) = ((d.sigs.length : Nat) : Int) by rw [List.length_map, hsl]]
    refine r_iter_rangeP (n := d.sigs.length) (nm := nmL) (by omega) hh D0
      (WLn6 G' aD aN aW aR lN I oI rd L w j d ks R0)
      ⟨o, oc, ys, ks, nN, kvs, _, _, _, _, _, _, _, hoc, hIr, hkl12, hys, hnd, (fun x m => ?_), (fun x m => m), hup, hre, hcell, fun k _ h => absurd h (Nat.not_lt_zero _)⟩ ?_ ?_
    · obtain ⟨k, rfl, hk⟩ := hkr x m
      exact ⟨k, rfl, hk, hLI.kN k m⟩
    · rintro R' i G' _ _ h tk ti I2 oI2 hi ⟨o, oc, ys, ks1, nN, kvs, j1, j2, j3, j4, j5, j6, j7, hoc, hIr, hkl, hys, hnd, hkr1, hk0, hup, hre, hcell, hd⟩ D
      obtain ⟨p, hp⟩ : ∃ p, d.sigs[i]? = some p := ⟨d.sigs[i], by simp [hi]⟩
      obtain ⟨ns, hns⟩ : ∃ ns, d.nets[i]? = some ns := ⟨d.nets[i]'(gd.nm ▸ hi), by simp [gd.nm ▸ hi]⟩
      obtain ⟨l, hlv, ysn, nl, hl2, hysn⟩ := hn i ns hns
      have hn4 := gd.n4 ns (List.mem_of_getElem? hns)
      have hks7 := hK7 ks1 hnd fun x m => let ⟨k, e, z, _⟩ := hkr1 x m; ⟨k, e, z⟩
      repeat walk_at "m.step"
      refine w_plain (by walk_at "m.room") Γ' (by walk_at "m.D") hD hp (by omega) fun h2 tk2 D2 => ?_
      repeat walk_at "m.step"
      refine ite_b (fun e => ?_) (fun e => ?_)
      · subst e
        repeat walk_at "m.step"
        refine r_listcomp (cl := [(Str.ofString "reached", L + 1)]) rfl rfl (by decide +kernel) ?_
        repeat walk_at "m.step"
        walk_at "m.iditem"
        rename Mem _ _ _ _ _ _ => D3
        refine r_comp_list (l := l) (xs := ysn) hh D3 (.inl hl2) (by have := hysn.length; omega) (fun q ys' => ∃ ms, IntsAre ys' ms ∧ ms = (ns.take q).filter (inK kvs)) ⟨[], .nil, rfl⟩ (fun q ys' ⟨ms, h1, h2⟩ => ?_) ?_ ?_ (by decide +kernel) rfl rfl
        · rw [h1.length, h2]
          exact Nat.le_trans (List.length_filter_le _ _) (by rw [List.length_take]; omega)
        · rintro q Gc C nD ys' h tk v I3 oI3 acc hv ⟨ms, hms, hme⟩ hGc D
          obtain ⟨x, tx, rfl, hx⟩ := hysn.at q v hv
          refine comp_if ?_
          repeat walk_at "m.step"
          refine id_in (by walk_at "m.D") (.inr (by walk_at "m.mem")) hIr fun tk3 => ?_
          repeat walk_at "m.step"
          have hfil : (ns.take (q + 1)).filter (inK kvs) = (ns.take q).filter (inK kvs) ++ (if inK kvs x = true then [x] else []) := by
            rw [List.take_add_one, hx, List.filter_append]
            congr 1
            by_cases e : inK kvs x = true
            · simp [e]
            · simp [e]
          refine ite_b (fun e => ?_) (fun e => ?_)
          · repeat walk_at "m.step"
            exact ⟨_, _, rfl, D, ms ++ [x], hms.append (.cons _ _ .nil), by rw [hfil, if_pos e, hme]⟩
          · exact ⟨_, _, rfl, D, ms, hms, by rw [hfil, if_neg (by rw [show inK kvs x = false from e]; exact Bool.false_ne_true), List.append_nil, hme]⟩
        · rintro acc nD ys' h tk C m ⟨ms, hms, hme⟩ D hC hO
          rw [hysn.length, List.take_length] at hme
          refine comp_none D hC hO fun h' D' => ?_
          repeat walk_at "m.step"
          refine l_ne (by walk_at "m.D") (.inr (by walk_at "m.mem")) (.inr (.head _)) hms .nil (by have := HA'.units; show A'.units + 64 < 9900; omega) ?_
          repeat walk_at "m.step"
          rename Mem _ _ _ _ _ _ => D4
          have D4 := D4.tail.tail
          refine ite_b (fun e => ?_) (fun e => ?_)
          · have hex : ∃ n, Own' d i n ∧ inK kvs n = true := by
              have hne : ms ≠ [] := by simpa using e
              rw [hme] at hne
              obtain ⟨n, hn⟩ := List.exists_mem_of_ne_nil _ hne
              have := List.mem_filter.mp hn
              exact ⟨n, ⟨hp, ns, hns, this.1⟩, this.2⟩
            have hnd' : Needed d i := let ⟨n, o, r⟩ := hex; ⟨n, o, hre n r⟩
            refine isTrue_and_nil ?_
            refine ite_t ?_
            refine wpAny_execs_cons (wpAny_mono (Q := fun f s' => f = Flow.next ∧ ∃ (ys2 : List Value) (ks2 : List Int) (nN2 : Nat) (h : Heap) (tk : Nat), s' = S s₀ h tk ∧
              Mem G' L nmL [j1, some (.ref aD), some (.ref aN), some (.ref aW), some (.ref aR), some (.ref lN), j2, j3, j4, j5, j6, some (.int (i : Nat) ti)] ((I2, oI2) :: (I, oI) :: (rd, o) :: (L + 1, oc) :: [(lN, listOf ys2.toArray nN2)]) h ∧
              IntsAre ys2 ks2 ∧ ks2.Nodup ∧ (∀ x ∈ ks2, ∃ k : Nat, x = (k : Int) ∧ k < d.sigs.length ∧ Needed d k) ∧ (∀ x ∈ ks1, x ∈ ks2) ∧ (i : Int) ∈ ks2) ?_ ?_ fun _ _ z => z)
            · have hyz : ys.length ≤ 2 ^ 20 := by have := hys.length; omega
              repeat walk_at "m.step"
              refine l_notin (by walk_at "m.D") (.inr (by walk_at "m.mem")) hys ?_
              repeat walk_at "m.step"
              refine ite_b (fun e2 => ?_) (fun e2 => ?_)
              · have hni : (i : Int) ∉ ks1 := by simpa using e2
                repeat walk_at "m.step"
                rename Mem _ _ _ _ _ _ => D5
                refine ⟨rfl, _, ks1 ++ [(i : Int)], _, _, _, rfl, D5, hys.append (.cons _ _ .nil), ?_, fun x m => ?_, fun x m => List.mem_append_left _ m, by simp⟩
                · exact List.nodup_append.mpr ⟨hnd, by simp, fun a ha b hb e => hni (by rw [← List.mem_singleton.mp hb, ← e]; exact ha)⟩
                · rcases mem_snoc m with m | rfl
                  · exact hkr1 x m
                  · exact ⟨i, rfl, hi, hnd'⟩
              · have hin : (i : Int) ∈ ks1 := by simpa using e2
                repeat walk_at "m.step"
                exact ⟨rfl, ys, ks1, _, _, _, rfl, D4, hys, hnd, hkr1, fun x m => m, hin⟩
            · rintro _ _ ⟨rfl, ys2, ks2, nN2, h, tk, rfl, D, hys2, hnd2, hkr2, hk12, hik⟩
              repeat walk_at "m.step"
              refine r_iter_listP (nm := nmL) (xs := rs.map Value.ref) hh (by walk_at "m.D")
                (WLn7 G' aD aN aW aR lN i ti I2 oI2 I oI rd L ys2 nN2 w j R0 d ks1)
                (fun i g vs σ j => by cases j; exact .inl e5)
                ⟨o, oc, kvs, _, _, _, _, _, _, hoc, hIr, hkl, hup, hre, hcell, hd, fun z _ h => absurd h (Nat.not_lt_zero _)⟩ ?_ ?_
              · rintro R' q G' _ _ h tk v I3 oI3 hv ⟨o, oc, kvs, j1, j2, j3, j4, j5, j6, hoc, hIr, hkl, hup, hre, hcell, hd, hdz⟩ D
                rw [List.getElem?_map] at hv
                obtain ⟨ra, hra, rfl⟩ := Option.map_eq_some_iff.mp hv
                obtain ⟨r, hri, hrow⟩ := hrs.get hra
                obtain ⟨x, t, u, b, t', v, more, nrow, ea, _, _⟩ := id hrow
                have hrm := List.mem_of_getElem? hri
                have hq7 : q < 7 := Nat.lt_of_lt_of_le (List.getElem?_eq_some_iff.mp hri).1 gd.w7
                have hr4 := gd.w4 r hrm
                repeat walk_at "m.step"
                walk_at "m.rowat"
                repeat walk_at "m.step"
                refine ite_b (fun e => ?_) (fun e => ?_)
                · have e' : r.1 = i := by have := beq_iff_eq.mp e; omega
                  repeat walk_at "m.step"
                  refine w_taken (by walk_at "m.room") Γ' (by walk_at "m.D") hrow (by omega) fun t h3 tk3 ysr n3 D3 hysr => ?_
                  repeat walk_at "m.step"
                  refine mark_list (pre := [(t, _), (I3, oI3), (I2, oI2), (I, oI)]) (post := (L + 1, oc) :: [(lN, listOf ys2.toArray nN2)]) hh D3 (.inr (.head _)) hysr (.inr (.head _)) hoc hIr (by omega) (fun h' tk' jn' o' kvs' D' M => ?_) rfl rfl rfl rfl
                  have D' := Mem.tail D'
                  have := M.len
                  repeat walk_at "m.step"
                  refine Turn.next (own := [(I3, oI3)]) D' ⟨o', oc, kvs', _, _, _, _, _, _, hoc, M.id, by omega, fun y hy => (M.inn y).mpr (.inl (hup y hy)), fun y hy => ?_, fun c hc r0 y hy => (M.inn y).mpr (.inl (hcell c hc r0 y hy)), fun k n hk o' r0 => ?_, fun z r' hz hrz hri' y hy => ?_⟩
                  · obtain ⟨n, on', rn⟩ := hnd'
                    exact ((M.inn y).mp hy).elim (hre y) fun m => .key on' rn hrm e' m
                  · exact ⟨(hd k n hk o' r0).1, fun r hr e y hy => (M.inn y).mpr (.inl ((hd k n hk o' r0).2 r hr e y hy))⟩
                  · rcases Nat.lt_succ_iff_lt_or_eq.mp hz with h | rfl
                    · exact (M.inn y).mpr (.inl (hdz z r' h hrz hri' y hy))
                    · rw [hri] at hrz; cases hrz
                      exact (M.inn y).mpr (.inr hy)
                · have e' : r.1 ≠ i := fun q => by rw [q] at e; simp at e
                  repeat walk_at "m.step"
                  rename Mem _ _ _ _ _ _ => D₂
                  refine Turn.next (own := [(I3, oI3)]) D₂ ⟨o, oc, kvs, _, _, _, _, _, _, hoc, hIr, by omega, hup, hre, hcell, hd, fun z r' hz hrz hri' y hy => ?_⟩
                  rcases Nat.lt_succ_iff_lt_or_eq.mp hz with h | rfl
                  · exact hdz z r' h hrz hri' y hy
                  · rw [hri] at hrz; cases hrz
                    exact absurd hri' e'
              · rintro G' _ _ h tk ⟨o, oc, kvs, j1, j2, j3, j4, j5, j6, hoc, hIr, hkl, hup, hre, hcell, hd, hdz⟩ D
                have hlr : (rs.map Value.ref).length = d.rows.length := by rw [List.length_map]; exact hrs.1
                rw [hlr] at hkl hdz
                have hw7 := gd.w7
                repeat walk_at "m.step"
                refine Turn.next (own := [(I2, oI2)]) D ⟨o, oc, ys2, ks2, nN2, kvs, _, _, _, _, _, _, _, hoc, hIr, by omega, hys2, hnd2, hkr2, fun x m => hk12 x (hk0 x m), hup, hre, hcell, fun k n hk o' r => ?_⟩
                rcases Nat.lt_succ_iff_lt_or_eq.mp hk with h | rfl
                · exact ⟨hk12 _ (hd k n h o' r).1, (hd k n h o' r).2⟩
                · refine ⟨hik, fun r hr e y hy => ?_⟩
                  obtain ⟨z, hz⟩ := List.mem_iff_getElem?.mp hr
                  exact hdz z r (List.getElem?_eq_some_iff.mp hz).1 hz e y hy
          · have hnone : ∀ n, Own' d i n → inK kvs n = false := by
              have he : ms = [] := by simpa using e
              rw [hme] at he
              intro n o
              obtain ⟨_, ns', e1, m1⟩ := o
              rw [hns] at e1; cases e1
              cases q : inK kvs n with
              | false => rfl
              | true => have := List.mem_filter.mpr ⟨m1, q⟩; rw [he] at this; cases this
            repeat walk_at "m.step"
            refine Turn.next (own := [(I2, oI2)]) D4 ⟨o, oc, ys, ks1, nN, kvs, _, _, _, _, _, _, _, hoc, hIr, by omega, hys, hnd, hkr1, hk0, hup, hre, hcell, fun k n hk o' r => ?_⟩
            rcases Nat.lt_succ_iff_lt_or_eq.mp hk with h | rfl
            · exact hd k n h o' r
            · have := hnone n o'
              rw [hup n r] at this; cases this
      · subst e
        repeat walk_at "m.step"
        refine Turn.next (own := [(I2, oI2)]) D2 ⟨o, oc, ys, ks1, nN, kvs, _, _, _, _, _, _, _, hoc, hIr, by omega, hys, hnd, hkr1, hk0, hup, hre, hcell, fun k n hk o' r => ?_⟩
        rcases Nat.lt_succ_iff_lt_or_eq.mp hk with h | rfl
        · exact hd k n h o' r
        · have := o'.1
          rw [hp] at this; cases this
    · rintro G' _ _ h tk ⟨o, oc, ys, ks1, nN, kvs, j1, j2, j3, j4, j5, j6, j7, hoc, hIr, hkl, hys, hnd, hkr1, hk0, hup, hre, hcell, hd⟩ D
      repeat walk_at "m.step"
      refine Turn.next (own := [(I, oI)]) D ⟨o, oc, lN, ys, ks1, nN, kvs, _, _, _, _, _, _, _, hoc, hIr, by omega, hys, hnd, fun x m => let ⟨k, e, z, _⟩ := hkr1 x m; ⟨k, e, z⟩, LInv.lap hLI ⟨hup, hre, fun k m => hk0 _ m, fun k m => ?_, hcell, fun k n o' r => hd k n o'.lt o' r⟩⟩
      obtain ⟨k', e, _, z⟩ := hkr1 _ m
      obtain rfl : k = k' := by omega
      exact z
  · rintro G' _ _ h tk ⟨o, oc, lN, ys, ks, nN, kvs, j1, j2, j3, j4, j5, j6, j7, hoc, hIr, hkl, hys, hnd, hkr, hLI⟩ D
    repeat walk_at "m.step"
    rename Mem _ _ _ _ _ _ => D₂
    have hK7 : ks.length ≤ d.sigs.length := by
      have := hnd.length_le_of_subset (l₂ := (List.range d.sigs.length).map fun k : Nat => (k : Int)) fun x m => by
        obtain ⟨k, rfl, hk⟩ := hkr x m
        exact List.mem_map.mpr ⟨k, List.mem_range.mpr hk, rfl⟩
      rwa [List.length_map, List.length_range] at this
    refine hR _ _ lN ys ks nN (D₂.kept kg) (D₂.get (.tail _ (.tail _ (.head _)))) (D₂.newer kg (.tail _ (.tail _ (.head _))) (by simp)) hys hnd (by omega) fun x => ⟨fun m => ?_, ?_⟩
    · obtain ⟨k, rfl, _⟩ := hkr x m
      exact ⟨k, rfl, (hLI.end_ k).mp m⟩
    · rintro ⟨k, rfl, hk⟩
      exact (hLI.end_ k).mpr hk
/-! E2 -/
section
variable {w : World} {A : Around} {G : Gh} {L : Addr} {nm : List Str} {vs vs' : List (Option Value)} {σ σ' fr : List (Addr × Obj)} {h h' : Heap} {s₀ : Shared} {tk : Nat} {env : Env} {E : Value → Shared → Prop}
omit s₀ tk env E A w in
theorem Mem.callW {W W' σr news : List (Addr × Obj)} (D : Mem G L nm vs (W ++ σr) h) (kp : Keep (W.map (·.1)) h h') (e : W'.map (·.1) = W.map (·.1)) (ho : ∀ p ∈ W', h'.get? p.1 = some p.2)
    (hn : ∀ p ∈ news, h'.get? p.1 = some p.2 ∧ h.get? p.1 = none) (nd : (news.map (·.1)).Nodup) : Mem G L nm vs (news ++ (W' ++ σr)) h' := by
  have nd0 := D.nd
  rw [List.map_append] at nd0
  have nd1 := List.nodup_append.mp nd0
  have hW : ∀ a ∈ W.map (·.1), a ≠ L ∧ G a = none := fun a ha => by
    obtain ⟨p, hp, rfl⟩ := List.mem_map.mp ha
    exact D.off p (List.mem_append_left _ hp)
  refine D.change (fun o q => kp _ _ q fun m => (hW _ m).1 rfl) (fun b o g q => kp b o q fun m => by rw [(hW b m).2] at g; cases g) (fun p hp => ?_) (fun p hp => ?_) ?_
  · rcases List.mem_append.mp hp with hp | hp
    · exact (hn p hp).1
    · rcases List.mem_append.mp hp with hp | hp
      · exact ho p hp
      · refine kp _ _ (D.own p (List.mem_append_right _ hp)) fun m => ?_
        exact nd1.2.2 p.1 m p.1 (List.mem_map_of_mem hp) rfl
  · rcases List.mem_append.mp hp with hp | hp
    · refine ⟨?_, ?_⟩
      · rintro q
        obtain ⟨m, ⟨o, _, _, eo, _⟩, _⟩ := D.ns
        have := (hn p hp).2
        rw [q, eo] at this; cases this
      · cases q : G p.1 with
        | none => rfl
        | some ob => have := D.keep _ _ q; rw [(hn p hp).2] at this; cases this
    · rcases List.mem_append.mp hp with hp | hp
      · exact hW _ (e ▸ List.mem_map_of_mem hp)
      · exact D.off p (List.mem_append_right _ hp)
  · rw [List.map_append, List.map_append, e]
    refine List.nodup_append.mpr ⟨nd, nd0, fun a ha b hb q => ?_⟩
    obtain ⟨p, hp, rfl⟩ := List.mem_map.mp ha
    have hb' : b ∈ (W ++ σr).map (·.1) := by rw [List.map_append]; exact hb
    obtain ⟨p2, hp2, rfl⟩ := List.mem_map.mp hb'
    have := D.own p2 hp2
    rw [← q, (hn p hp).2] at this; cases this

/-- what is given to G for good -/
theorem Mem.freeze (D : Mem G L nm vs (fr ++ σ) h) (Γ : Gnd w G) : ∃ G2, Le G G2 ∧ Gnd w G2 ∧ Mem G2 L nm vs σ h ∧ (∀ p ∈ fr, G2 p.1 = some p.2) := by
  have D2 := D.drop
  refine ⟨_, fun b o e => D2.base_le e, D2.gnd Γ, D2.rebase, fun p hp => hide_some (D.own p (List.mem_append_left _ hp)) fun m => ?_⟩
  rcases List.mem_cons.mp m with q | m
  · exact (D.off p (List.mem_append_left _ hp)).1 q
  · have nd := D.nd
    rw [List.map_append] at nd
    exact (List.nodup_append.mp nd).2.2 p.1 (List.mem_map_of_mem hp) p.1 m rfl

/-! dicts with texts as keys -/
abbrev sk (w : World) : PySem.KeyKind PG w Str := PySem.strKind PG w
def SD (w : World) (d : Addr) (o : Obj) (kvs : List (Str × Value)) : Prop := (d == sysModules) = false ∧ o.IsDictOf (sk w) kvs
theorem SD.new {d : Addr} {o : Obj} (I : ID w d o []) : SD w d o [] := by
  obtain ⟨lo, es, ep, h1, h2, _, h4, _⟩ := I
  have he : es = #[] := by
    have := h4.length
    simpa using this
  subst he
  exact ⟨lo, #[], ep, h1, h2, (fun e he => by simp at he), .nil, List.nodup_nil⟩
theorem sd_set {d : Addr} {o : Obj} {kvs : List (Str × Value)} {k : Str} {t : Tok} {v : Value} {Q : Unit → Shared → Prop} (D : Mem G L nm vs σ h) (hm : (d, o) ∈ σ) (I : SD w d o kvs) (hz : kvs.length ≤ 2 ^ 20)
    (hQ : ∀ h' tk' o', SD w d o' (stored kvs k v) → (∀ σ', Rep d o o' σ σ' → Mem G L nm vs σ' h') → Q () (S s₀ h' tk')) : wpAny (MM w) A (setItem (.ref d) (.str k t) v) Q E (S s₀ h tk) := by
  refine wpAny_setItem_pairs (s := S s₀ h tk) (strKind_is PG w k t) (Heap.dictOf_iff.mpr ⟨o, D.get hm, I.2⟩) (fun h' hd hs => ?_) (by rw [sizeLine_eq]; omega)
  obtain ⟨o', ho', hd'⟩ := Heap.dictOf_iff.mp hd
  exact hQ h' (tk + 1) o' ⟨I.1, hd'⟩ fun σ' r => D.same r hs ho'
end

local macro_rules | `(tactic| walk_at "m.setattr") => `(tactic| ((with_reducible refine' a_set ?Gn ?D ?kx ?m ?F ?nf ?len ?s ?p ?t ?hd ?pf ?_); (case Gn => assumption); (case D => walk_at "m.D"); (case kx => walk_at "m.kn"); (case m => walk_at "m.mem"); (case F => assumption); (case nf => decide +kernel); (case len => exact Nat.le_of_ble_eq_true rfl); (case s => exact rfl); (case p => exact rfl); (case t => exact rfl); (case hd => exact rfl); (case pf => walk_at "m.puto"); intro _ _ _ _ _; walk_at "m.up"))
local macro_rules | `(tactic| walk_at "m.step") => `(tactic| ((with_reducible show wpAny _ _ (setAttr (Value.ref _) _ _) _ _ _); walk_at "m.setattr"))

abbrev nfS : List Str := [Str.ofString "key", Str.ofString "path", Str.ofString "kind", Str.ofString "width", Str.ofString "signed", Str.ofString "msb", Str.ofString "lsb", Str.ofString "first", Str.ofString "last", Str.ofString "init", Str.ofString "at", Str.ofString "scalar", Str.ofString "is_memory"]
theorem c_Signal {w : World} {A : Around} {G : Gh} {h : Heap} {s₀ : Shared} {tk : Nat} {x dx : Addr} {o : Obj} {a1 a2 a3 a4 a5 a6 a7 : Value} {R : Result → Shared → Prop}
    (HA : Room A 5) (Γ : Gnd w G) (kp : ∀ b o, G b = some o → h.get? b = some o) (hx : h.get? x = some (instObj 143 dx)) (hd : h.get? dx = some o) (gd : G dx = none) (hne : x ≠ dx) (hF : FD o nfS (nfS.map fun _ => none))
    (hR : ∀ h' tk' o' t, Keep [dx] h h' → h'.get? dx = some o' → FD o' nfS [some a1, some a2, some a3, some a4, some a5, some a6, some a7, some .none, some .none, some .none, some (.int (-1) t), some (.bool false), none] → R (.ok (.ret .none)) (S s₀ h' tk')) :
    codeAny (MM w) A (.call (.ref 105) ⟨[.ref x, a1, a2, a3, a4, a5, a6, a7], []⟩) R (S s₀ h tk) := by
  refine enter (f := 105) (W := [(dx, o)]) (nm := [Str.ofString "self", Str.ofString "key", Str.ofString "path", Str.ofString "kind", Str.ofString "width", Str.ofString "signed", Str.ofString "msb", Str.ofString "lsb"]) (vs := [some (.ref x), some a1, some a2, some a3, some a4, some a5, some a6, some a7])
    (binds := [(Str.ofString "self", .ref x), (Str.ofString "key", a1), (Str.ofString "path", a2), (Str.ofString "kind", a3), (Str.ofString "width", a4), (Str.ofString "signed", a5), (Str.ofString "msb", a6), (Str.ofString "lsb", a7)]) HA Γ kp rfl rfl (BindsTo.of_eq rfl) rfl rfl (by decide +kernel) ⟨rfl, rfl, rfl, rfl, rfl, rfl, rfl, rfl, trivial⟩
    (fun p hp => by rw [List.mem_singleton.mp hp]; exact ⟨hd, gd⟩) (by simp) ?_
  intro A' G' L h₁ tk₁ HA' Γ' kg D hA'
  have gx' := kg _ _ hx (by simpa using hne)
  have hF : FD o nfS [none, none, none, none, none, none, none, none, none, none, none, none, none] := hF
  repeat walk_at "m.step"
  refine i_neg fun t9 tk9 => ?_
  repeat walk_at "m.step"
  rename Mem _ _ _ _ _ _ => D₂
  rename FD _ _ _ => hF₂
  exact hR _ _ _ _ (D₂.kept kg) (D₂.get (.head _)) hF₂

abbrev nfD : List Str := [Str.ofString "signals", Str.ofString "assigns", Str.ofString "gates", Str.ofString "udps", Str.ofString "processes", Str.ofString "routines", Str.ofString "scopes", Str.ofString "tops", Str.ofString "ports", Str.ofString "maker", Str.ofString "nesting", Str.ofString "by_path", Str.ofString "add_signal"]
theorem c_Design {w : World} {A : Around} {G : Gh} {h : Heap} {s₀ : Shared} {tk : Nat} {x dx : Addr} {o : Obj} {R : Result → Shared → Prop}
    (HA : Room A 5) (Γ : Gnd w G) (kp : ∀ b o, G b = some o → h.get? b = some o) (hx : h.get? x = some (instObj 206 dx)) (hd : h.get? dx = some o) (gd : G dx = none) (hne : x ≠ dx) (hF : FD o nfD (nfD.map fun _ => none))
    (hR : ∀ h' tk' o' al ap bp ob, Keep [dx] h h' → h'.get? dx = some o' → Fld o' "signals" (some (.ref al)) → Fld o' "ports" (some (.ref ap)) → Fld o' "by_path" (some (.ref bp)) → Fld o' "add_signal" none →
      SD w bp ob [] → (∀ p ∈ [(al, listOf #[] 0), (ap, listOf #[] 0), (bp, ob)], h'.get? p.1 = some p.2 ∧ h.get? p.1 = none) → [al, ap, bp].Nodup → R (.ok (.ret .none)) (S s₀ h' tk')) :
    codeAny (MM w) A (.call (.ref 161) ⟨[.ref x], []⟩) R (S s₀ h tk) := by
  refine enter (f := 161) (W := [(dx, o)]) (nm := [Str.ofString "self"]) (vs := [some (.ref x)]) (binds := [(Str.ofString "self", .ref x)]) HA Γ kp rfl rfl (BindsTo.of_eq rfl) rfl rfl (by decide +kernel) ⟨rfl, trivial⟩
    (fun p hp => by rw [List.mem_singleton.mp hp]; exact ⟨hd, gd⟩) (by simp) ?_
  intro A' G' L h₁ tk₁ HA' Γ' kg D hA'
  have gx' := kg _ _ hx (by simpa using hne)
  have hF : FD o nfD [none, none, none, none, none, none, none, none, none, none, none, none, none] := hF
  repeat walk_at "m.step"
  rename Mem _ _ _ _ _ _ => D₂
  rename FD _ _ _ => hF₂
  rename ID _ _ _ _ => hI
  have nd := D₂.nd
  simp only [List.map_cons, List.map_nil, List.nodup_cons, List.mem_cons, List.not_mem_nil, or_false, not_or, List.nodup_nil, and_true, not_false_eq_true] at nd
  refine hR _ _ _ _ _ _ _ (D₂.kept kg) (D₂.get (by walk_at "m.mem")) (hF₂.fld (by walk_at "m.ato")) (hF₂.fld (by walk_at "m.ato")) (hF₂.fld (by walk_at "m.ato")) (hF₂.fld (by walk_at "m.ato")) (SD.new hI) (fun p hp => ?_) ?_
  · simp only [List.mem_cons, List.not_mem_nil, or_false] at hp
    rcases hp with rfl | rfl | rfl
    · exact ⟨D₂.get (by walk_at "m.mem"), D₂.newer kg (by walk_at "m.mem") (by simp only [List.map_cons, List.map_nil, List.mem_cons, List.not_mem_nil, or_false]; grind)⟩
    · exact ⟨D₂.get (by walk_at "m.mem"), D₂.newer kg (by walk_at "m.mem") (by simp only [List.map_cons, List.map_nil, List.mem_cons, List.not_mem_nil, or_false]; grind)⟩
    · exact ⟨D₂.get (by walk_at "m.mem"), D₂.newer kg (by walk_at "m.mem") (by simp only [List.map_cons, List.map_nil, List.mem_cons, List.not_mem_nil, or_false]; grind)⟩
  · simp only [List.nodup_cons, List.mem_cons, List.not_mem_nil, or_false, not_or, List.nodup_nil, and_true, not_false_eq_true]
    grind
/-! E3 -/
local macro_rules | `(tactic| walk_at "m.step") => `(tactic| first
  | with_reducible refine wpAny_AugAssign_AttributeAny ?_
  | (with_reducible refine i_neg ?_; intro _ _))
abbrev nfW : List Str := [Str.ofString "nets", Str.ofString "drivers", Str.ofString "initial", Str.ofString "pulls", Str.ofString "uneven", Str.ofString "strong", Str.ofString "unclear", Str.ofString "floating", Str.ofString "names", Str.ofString "drive"]
theorem c_Wires {w : World} {A : Around} {G : Gh} {h : Heap} {s₀ : Shared} {tk : Nat} {x dx : Addr} {o : Obj} {R : Result → Shared → Prop}
    (HA : Room A 5) (Γ : Gnd w G) (kp : ∀ b o, G b = some o → h.get? b = some o) (hx : h.get? x = some (instObj 52 dx)) (hd : h.get? dx = some o) (gd : G dx = none) (hne : x ≠ dx) (hF : FD o nfW (nfW.map fun _ => none))
    (hR : ∀ h' tk' o' an ad on od, Keep [dx] h h' → h'.get? dx = some o' → Fld o' "nets" (some (.ref an)) → Fld o' "drivers" (some (.ref ad)) → Fld o' "drive" none →
      ID w an on [] → TD w ad od [] → (∀ p ∈ [(an, on), (ad, od)], h'.get? p.1 = some p.2 ∧ h.get? p.1 = none) → [an, ad].Nodup → R (.ok (.ret .none)) (S s₀ h' tk')) :
    codeAny (MM w) A (.call (.ref 35) ⟨[.ref x], []⟩) R (S s₀ h tk) := by
  refine enter (f := 35) (W := [(dx, o)]) (nm := [Str.ofString "self"]) (vs := [some (.ref x)]) (binds := [(Str.ofString "self", .ref x)]) HA Γ kp rfl rfl (BindsTo.of_eq rfl) rfl rfl (by decide +kernel) ⟨rfl, trivial⟩
    (fun p hp => by rw [List.mem_singleton.mp hp]; exact ⟨hd, gd⟩) (by simp) ?_
  intro A' G' L h₁ tk₁ HA' Γ' kg D hA'
  have gx' := kg _ _ hx (by simpa using hne)
  have hF : FD o nfW [none, none, none, none, none, none, none, none, none, none] := hF
  repeat walk_at "m.step"
  rename Mem _ _ _ _ _ _ => D₂
  rename FD _ _ _ => hF₂
  have nd := D₂.nd
  simp only [List.map_cons, List.map_nil, List.nodup_cons, List.mem_cons, List.not_mem_nil, or_false, not_or, List.nodup_nil, and_true, not_false_eq_true] at nd
  refine hR _ _ _ _ _ _ _ (D₂.kept kg) (D₂.get (by walk_at "m.mem")) (hF₂.fld (by walk_at "m.ato")) (hF₂.fld (by walk_at "m.ato")) (hF₂.fld (by walk_at "m.ato")) (by assumption) (by assumption) (fun p hp => ?_) ?_
  · simp only [List.mem_cons, List.not_mem_nil, or_false] at hp
    rcases hp with rfl | rfl
    · exact ⟨D₂.get (by walk_at "m.mem"), D₂.newer kg (by walk_at "m.mem") (by simp only [List.map_cons, List.map_nil, List.mem_cons, List.not_mem_nil, or_false]; grind)⟩
    · exact ⟨D₂.get (by walk_at "m.mem"), D₂.newer kg (by walk_at "m.mem") (by simp only [List.map_cons, List.map_nil, List.mem_cons, List.not_mem_nil, or_false]; grind)⟩
  · simp only [List.nodup_cons, List.mem_cons, List.not_mem_nil, or_false, not_or, List.nodup_nil, and_true, not_false_eq_true]
    grind

abbrev nfN : List Str := [Str.ofString "name", Str.ofString "count", Str.ofString "inputs", Str.ofString "outputs", Str.ofString "cells", Str.ofString "new_net", Str.ofString "new_nets", Str.ofString "add_cell", Str.ofString "drive"]
/-- a netlist's own dict -/
def NO (o : Obj) (c : Int) (ac : Addr) : Prop := ∃ a t b1 b2, FD o nfN [some a, some (.int c t), some b1, some b2, some (.ref ac), none, none, none, none]
theorem c_Netlist {w : World} {A : Around} {G : Gh} {h : Heap} {s₀ : Shared} {tk : Nat} {x dx : Addr} {o : Obj} {a1 : Value} {R : Result → Shared → Prop}
    (HA : Room A 5) (Γ : Gnd w G) (kp : ∀ b o, G b = some o → h.get? b = some o) (hx : h.get? x = some (instObj 290 dx)) (hd : h.get? dx = some o) (gd : G dx = none) (hne : x ≠ dx) (hF : FD o nfN (nfN.map fun _ => none))
    (hR : ∀ h' tk' o' ac, Keep [dx] h h' → h'.get? dx = some o' → NO o' 2 ac → (h'.get? ac = some (listOf #[] 0) ∧ h.get? ac = none) → R (.ok (.ret .none)) (S s₀ h' tk')) :
    codeAny (MM w) A (.call (.ref 231) ⟨[.ref x, a1], []⟩) R (S s₀ h tk) := by
  refine enter (f := 231) (W := [(dx, o)]) (nm := [Str.ofString "self", Str.ofString "name"]) (vs := [some (.ref x), some a1]) (binds := [(Str.ofString "self", .ref x), (Str.ofString "name", a1)]) HA Γ kp rfl rfl (BindsTo.of_eq rfl) rfl rfl (by decide +kernel) ⟨rfl, rfl, trivial⟩
    (fun p hp => by rw [List.mem_singleton.mp hp]; exact ⟨hd, gd⟩) (by simp) ?_
  intro A' G' L h₁ tk₁ HA' Γ' kg D hA'
  have gx' := kg _ _ hx (by simpa using hne)
  have hF : FD o nfN [none, none, none, none, none, none, none, none, none] := hF
  repeat walk_at "m.step"
  rename Mem _ _ _ _ _ _ => D₂
  rename FD _ _ _ => hF₂
  have nd := D₂.nd
  simp only [List.map_cons, List.map_nil, List.nodup_cons, List.mem_cons, List.not_mem_nil, or_false, not_or, List.nodup_nil, and_true, not_false_eq_true] at nd
  refine hR _ _ _ _ (D₂.kept kg) (D₂.get (by walk_at "m.mem")) ⟨_, _, _, _, hF₂⟩ ⟨D₂.get (by walk_at "m.mem"), D₂.newer kg (by walk_at "m.mem") (by simp only [List.map_cons, List.map_nil, List.mem_cons, List.not_mem_nil, or_false]; grind)⟩

theorem c_new_net {w : World} {A : Around} {G : Gh} {h : Heap} {s₀ : Shared} {tk : Nat} {x dx ac : Addr} {o : Obj} {c : Int} {R : Result → Shared → Prop}
    (HA : Room A 5) (Γ : Gnd w G) (kp : ∀ b o, G b = some o → h.get? b = some o) (hx : h.get? x = some (instObj 290 dx)) (hd : h.get? dx = some o) (gd : G dx = none) (hne : x ≠ dx) (hN : NO o c ac)
    (hR : ∀ h' tk' o' t, Keep [dx] h h' → h'.get? dx = some o' → NO o' (c + 1) ac → R (.ok (.ret (.int c t))) (S s₀ h' tk')) :
    codeAny (MM w) A (.call (.ref 238) ⟨[.ref x], []⟩) R (S s₀ h tk) := by
  refine enter (f := 238) (W := [(dx, o)]) (nm := [Str.ofString "self", Str.ofString "net"]) (vs := [some (.ref x), none]) (binds := [(Str.ofString "self", .ref x)]) HA Γ kp rfl rfl (BindsTo.of_eq rfl) rfl rfl (by decide +kernel) ⟨rfl, trivial⟩
    (fun p hp => by rw [List.mem_singleton.mp hp]; exact ⟨hd, gd⟩) (by simp) ?_
  intro A' G' L h₁ tk₁ HA' Γ' kg D hA'
  have gx' := kg _ _ hx (by simpa using hne)
  obtain ⟨a, t, b1, b2, hF⟩ := hN
  have hFc : Fld o "count" (some (.int c t)) := hF.fld (by walk_at "m.ato")
  repeat walk_at "m.step"
  rename Mem _ _ _ _ _ _ => D₂
  rename FD _ _ _ => hF₂
  exact hR _ _ _ _ (D₂.kept kg) (D₂.get (by walk_at "m.mem")) ⟨_, _, _, _, hF₂⟩
/-! E4 -/
theorem NO.meth1 {o : Obj} {c : Int} {ac : Addr} (h : NO o c ac) : Fld o "new_net" none := let ⟨_, _, _, _, f⟩ := h; f.fld (by walk_at "m.ato")
theorem NO.meth2 {o : Obj} {c : Int} {ac : Addr} (h : NO o c ac) : Fld o "new_nets" none := let ⟨_, _, _, _, f⟩ := h; f.fld (by walk_at "m.ato")
theorem NO.meth3 {o : Obj} {c : Int} {ac : Addr} (h : NO o c ac) : Fld o "add_cell" none := let ⟨_, _, _, _, f⟩ := h; f.fld (by walk_at "m.ato")
theorem NO.meth4 {o : Obj} {c : Int} {ac : Addr} (h : NO o c ac) : Fld o "drive" none := let ⟨_, _, _, _, f⟩ := h; f.fld (by walk_at "m.ato")
theorem NO.cells {o : Obj} {c : Int} {ac : Addr} (h : NO o c ac) : Fld o "cells" (some (.ref ac)) := let ⟨_, _, _, _, f⟩ := h; f.fld (by walk_at "m.ato")
def iota (c : Int) (k : Nat) : List Int := (List.range k).map fun j : Nat => c + (j : Int)
theorem iota_succ (c : Int) (k : Nat) : iota c (k + 1) = iota c k ++ [c + (k : Int)] := by unfold iota; rw [List.range_succ, List.map_append]; rfl
theorem iota_len (c : Int) (k : Nat) : (iota c k).length = k := by unfold iota; simp
theorem mem_iota {c : Int} {k : Nat} {x : Int} : x ∈ iota c k ↔ c ≤ x ∧ x < c + k := by
  unfold iota
  simp only [List.mem_map, List.mem_range]
  constructor
  · rintro ⟨j, h, rfl⟩; omega
  · rintro ⟨h1, h2⟩; exact ⟨(x - c).toNat, by omega, by omega⟩

section
variable {w : World} {A : Around} {G : Gh} {L : Addr} {nm : List Str} {vs vs' : List (Option Value)} {σ σ' : List (Addr × Obj)} {h : Heap} {s₀ : Shared} {tk : Nat} {env : Env}
theorem Knows.ne {a b : Addr} {o o' : Obj} (D : Mem G L nm vs σ h) (k : Knows G σ a o) (k' : Knows G σ b o') (hne : o ≠ o') : a ≠ b := by
  rintro rfl
  have := D.knows k
  rw [D.knows k'] at this
  exact hne (Option.some.inj this).symm
theorem inst_ne_FD {C dx : Addr} {o : Obj} {nf : List Str} {vf : List (Option Value)} (h : FD o nf vf) : instObj C dx ≠ o := by
  obtain ⟨es, n, rfl, _⟩ := h
  intro e
  injection e with e1 e2 e3
  cases e2
theorem w_new_net {x dx ac : Addr} {o : Obj} {c : Int} {Q : Value → Shared → Prop} (HA : Room A 5) (Γ : Gnd w G) (D : Mem G L nm vs σ h) (kx : Knows G σ x (instObj 290 dx)) (hm : (dx, o) ∈ σ) (hN : NO o c ac)
    (hQ : ∀ h' tk' o' t, NO o' (c + 1) ac → (∀ σ', Rep dx o o' σ σ' → Mem G L nm vs σ' h') → Q (.int c t) (S s₀ h' tk')) : wpAny (MM w) A (call (.ref 238) [.ref x]) Q F0 (S s₀ h tk) :=
  wpAny_call (c_new_net HA Γ D.keep (D.knows kx) (D.get hm) (D.off _ hm).2 (kx.ne D (.inr hm) (let ⟨_, _, _, _, f⟩ := hN; inst_ne_FD f)) hN fun h' tk' o' t kp ho hN' => hQ h' tk' o' t hN' fun σ' r => D.after1 kp r ho)
end

theorem c_new_nets {w : World} {A : Around} {G : Gh} {h : Heap} {s₀ : Shared} {tk : Nat} {x dx ac : Addr} {o : Obj} {c : Int} {k : Nat} {t : Tok} {R : Result → Shared → Prop}
    (HA : Room A 15) (Γ : Gnd w G) (kp : ∀ b o, G b = some o → h.get? b = some o) (hx : h.get? x = some (instObj 290 dx)) (hd : h.get? dx = some o) (gd : G dx = none) (hne : x ≠ dx) (hN : NO o c ac) (hk : k ≤ 100)
    (hR : ∀ h' tk' o' l ys n, Keep [dx] h h' → h'.get? dx = some o' → NO o' (c + k) ac → h'.get? l = some (listOf ys.toArray n) → h.get? l = none → IntsAre ys (iota c k) → R (.ok (.ret (.ref l))) (S s₀ h' tk')) :
    codeAny (MM w) A (.call (.ref 243) ⟨[.ref x, .int k t], []⟩) R (S s₀ h tk) := by
  refine enterC (f := 243) (W := [(dx, o)]) (nm := [Str.ofString "width"]) (vs := [some (.int k t)]) (binds := [(Str.ofString "self", .ref x), (Str.ofString "width", .int k t)]) HA Γ kp rfl rfl (BindsTo.of_eq rfl) ?_ ?_ (by decide +kernel) (fun L' => ?_) (fun p hp => by rw [List.mem_singleton.mp hp]; exact ⟨hd, gd⟩) (by simp) ?_
  · intro n y hy
    simp only [List.mem_cons, List.not_mem_nil, or_false] at hy
    rcases hy with rfl | rfl
    · exact .inr ⟨rfl, rfl⟩
    · exact .inl rfl
  · decide +kernel
  · exact ⟨rfl, trivial⟩
  intro A' G' L h₁ tk₁ cells HA' Γ' kg hcl _ D
  obtain ⟨oc, rfl, hoc⟩ := CellsAre.one (n := Str.ofString "self") (c := L + 1) hcl
  have D : Mem G' L [Str.ofString "width"] _ [(L + 1, oc), (dx, o)] h₁ := D
  have hoc : oc.data = .cell (some (.ref x)) := hoc
  have gx' := kg _ _ hx (by simpa using hne)
  refine wpAny_execs_cons (wpAny_Return_some ?_)
  refine r_listcomp (cl := [(Str.ofString "self", L + 1)]) rfl rfl (by decide +kernel) ?_
  repeat walk_at "m.step"
  refine w_range (by omega) HA'.hd (by walk_at "m.D") fun I h2 tk2 St o0 W hI D2 hst => ?_
  refine r_comp W hI (fun i ys σ' => ∃ o', σ' = [(L + 1, oc), (dx, o')] ∧ NO o' (c + (i : Int)) ac ∧ IntsAre ys (iota c i)) (fun b hb hne => absurd (List.mem_singleton.mp hb) hne) D2 hst ⟨o, rfl, by simpa using hN, .nil⟩ (by omega) (fun i ys σ' ⟨_, _, _, z⟩ => by rw [z.length, iota_len]; exact Nat.le_refl _) ?_ ?_ (by decide +kernel) rfl rfl
  · rintro i Gc C nD ys _ h tk v oI acc hi ⟨_, tv, rfl⟩ ⟨o', rfl, hN', hys⟩ hGc D
    have Γc : Gnd w Gc := Γ'.mono hGc
    have gxc := hGc _ _ gx'
    have hmeth := hN'.meth1
    refine comp_noif ?_
    refine ite_t ?_
    repeat walk_at "m.step"
    refine w_new_net (HA'.le (by omega)) Γc (by walk_at "m.D") (.inl gxc) (by walk_at "m.mem") hN' fun h3 tk3 o3 t3 hN3 H3 => ?_
    walk_at "m.up"
    rename Mem _ _ _ _ _ _ => D₂
    refine ⟨_, _, _, rfl, D₂, o3, rfl, by push_cast; rw [← Int.add_assoc]; exact hN3, ?_⟩
    rw [iota_succ]
    exact hys.append (.cons _ _ .nil)
  · rintro acc nD ys _ h tk C m ⟨o', rfl, hN', hys⟩ D hC hO
    refine comp_none D hC hO fun h' D' => ?_
    repeat walk_at "m.step"
    have ndd := D'.nd
    simp only [List.map_cons, List.map_nil, List.nodup_cons, List.mem_cons, List.not_mem_nil, or_false, not_or] at ndd
    exact hR _ _ o' acc ys nD (D'.kept kg) (D'.get (by walk_at "m.mem")) hN' (D'.get (.head _)) (D'.newer kg (.head _) (by simp only [List.map_cons, List.map_nil, List.mem_cons, List.not_mem_nil, or_false]; grind)) hys
/-! E5 -/
theorem seq_ne_FD {T : String} {items : Array Value} {n : Nat} {o : Obj} {nf : List Str} {vf : List (Option Value)} (h : FD o nf vf) : ({ cls := .type T, data := .seq items n } : Obj) ≠ o := by
  obtain ⟨es, m, rfl, _⟩ := h
  intro e
  injection e with _ _ e3
  cases e3
theorem c_ndrive {w : World} {A : Around} {G : Gh} {h : Heap} {s₀ : Shared} {tk : Nat} {x dx ac li : Addr} {o : Obj} {c out : Int} {kind : Str} {t u : Tok} {xs ys : List Value} {n ny : Nat} {R : Result → Shared → Prop}
    (HA : Room A 5) (Γ : Gnd w G) (kp : ∀ b o, G b = some o → h.get? b = some o) (hx : h.get? x = some (instObj 290 dx)) (hd : h.get? dx = some o) (hN : NO o c ac) (hc : h.get? ac = some (listOf xs.toArray n)) (gc : G ac = none) (hl : h.get? li = some (listOf ys.toArray ny)) (hla : li ≠ ac)
    (hz : xs.length ≤ 1000) (hz2 : ys.length ≤ 1000)
    (hR : ∀ h' tk' n' (ti tt : Addr), Keep [ac] h h' → h'.get? ac = some (listOf (xs ++ [Value.ref tt]).toArray n') → (∀ p ∈ [(tt, tupOf #[.str kind t, .int out u, .ref ti, .none] 0), (ti, tupOf ys.toArray 0)], h'.get? p.1 = some p.2 ∧ h.get? p.1 = none) → [tt, ti].Nodup → R (.ok (.ret .none)) (S s₀ h' tk')) :
    codeAny (MM w) A (.call (.ref 273) ⟨[.ref x, .int out u, .str kind t, .ref li, .none], []⟩) R (S s₀ h tk) := by
  have hxa : x ≠ ac := by rintro rfl; rw [hc] at hx; cases hx
  have hda : dx ≠ ac := by
    rintro rfl
    rw [hc] at hd
    obtain ⟨_, _, _, _, hF⟩ := hN
    exact seq_ne_FD hF (Option.some.inj hd)
  refine enter (f := 273) (W := [(ac, listOf xs.toArray n)]) (nm := [Str.ofString "self", Str.ofString "out", Str.ofString "kind", Str.ofString "ins", Str.ofString "param"]) (vs := [some (.ref x), some (.int out u), some (.str kind t), some (.ref li), some .none])
    (binds := [(Str.ofString "self", .ref x), (Str.ofString "out", .int out u), (Str.ofString "kind", .str kind t), (Str.ofString "ins", .ref li), (Str.ofString "param", .none)]) HA Γ kp rfl rfl ?_ rfl rfl (by decide +kernel) ⟨rfl, rfl, rfl, rfl, rfl, trivial⟩
    (fun p hp => by rw [List.mem_singleton.mp hp]; exact ⟨hc, gc⟩) (by simp) ?_
  · exact BindsTo.of_defaults (T := 266) rfl (Γ.kin kp _ _ rfl) rfl rfl rfl
  intro A' G' L h₁ tk₁ HA' Γ' kg D hA'
  have gx' := kg _ _ hx (by simpa using hxa)
  have gd' := kg _ _ hd (by simpa using hda)
  have gl' := kg _ _ hl (by simpa using hla)
  have hFc := hN.cells
  have hz3 : xs.length ≤ 2 ^ 20 := by omega
  repeat walk_at "m.step"
  refine tup_of (by walk_at "m.D") (.inl gl') (by omega) fun ti h2 D2 => ?_
  repeat walk_at "m.step"
  rename Mem _ _ _ _ _ _ => D₂
  have ndd := D₂.nd
  simp only [List.map_cons, List.map_nil, List.nodup_cons, List.mem_cons, List.not_mem_nil, or_false, not_or] at ndd
  refine hR _ _ _ ti _ (D₂.kept kg) (D₂.get (by walk_at "m.mem")) (fun p hp => ?_) ?_
  · simp only [List.mem_cons, List.not_mem_nil, or_false] at hp
    rcases hp with rfl | rfl
    · exact ⟨D₂.get (by walk_at "m.mem"), D₂.newer kg (by walk_at "m.mem") (by simp only [List.map_cons, List.map_nil, List.mem_cons, List.not_mem_nil, or_false]; grind)⟩
    · exact ⟨D₂.get (by walk_at "m.mem"), D₂.newer kg (by walk_at "m.mem") (by simp only [List.map_cons, List.map_nil, List.mem_cons, List.not_mem_nil, or_false]; grind)⟩
  · simp only [List.nodup_cons, List.mem_cons, List.not_mem_nil, or_false, List.nodup_nil, and_true, not_false_eq_true]
    grind

section
variable {w : World} {A : Around} {G : Gh} {L : Addr} {nm : List Str} {vs vs' : List (Option Value)} {σ σ' : List (Addr × Obj)} {h : Heap} {s₀ : Shared} {tk : Nat} {env : Env}
theorem w_ndrive {x dx ac li : Addr} {o : Obj} {c out : Int} {kind : Str} {t u : Tok} {xs ys : List Value} {n ny : Nat} {Q : Value → Shared → Prop} (HA : Room A 5) (Γ : Gnd w G) (D : Mem G L nm vs ([(ac, listOf xs.toArray n)] ++ σ) h)
    (kx : Knows G σ x (instObj 290 dx)) (kd : Knows G σ dx o) (hN : NO o c ac) (kl : Knows G σ li (listOf ys.toArray ny)) (hz : xs.length ≤ 1000) (hz2 : ys.length ≤ 1000)
    (hQ : ∀ h' tk' n' (ti tt : Addr), Mem G L nm vs ([(tt, tupOf #[.str kind t, .int out u, .ref ti, .none] 0), (ti, tupOf ys.toArray 0)] ++ ([(ac, listOf (xs ++ [Value.ref tt]).toArray n')] ++ σ)) h' → Q .none (S s₀ h' tk')) :
    wpAny (MM w) A (call (.ref 273) [.ref x, .int out u, .str kind t, .ref li, .none]) Q F0 (S s₀ h tk) := by
  have hla : li ≠ ac := by
    rintro rfl
    have ha := D.off _ (.head _)
    rcases kl with g | m
    · rw [ha.2] at g; cases g
    · exact (List.nodup_cons.mp D.nd).1 (List.mem_map.mpr ⟨_, m, rfl⟩)
  refine wpAny_call (c_ndrive HA Γ D.keep (D.knows kx.cons) (D.knows kd.cons) hN (D.get (.head _)) (D.off _ (.head _)).2 (D.knows kl.cons) hla hz hz2 fun h' tk' n' ti tt kp ho hn nd => hQ h' tk' n' ti tt (D.callW kp rfl (fun p hp => ?_) hn nd))
  rw [List.mem_singleton.mp hp]; exact ho
end

theorem c_add_cell {w : World} {A : Around} {G : Gh} {h : Heap} {s₀ : Shared} {tk : Nat} {x dx ac li : Addr} {o : Obj} {c : Int} {kind : Str} {t : Tok} {xs ys : List Value} {n ny : Nat} {R : Result → Shared → Prop}
    (HA : Room A 10) (Γ : Gnd w G) (kp : ∀ b o, G b = some o → h.get? b = some o) (hx : h.get? x = some (instObj 290 dx)) (hd : h.get? dx = some o) (gd : G dx = none) (hN : NO o c ac) (hc : h.get? ac = some (listOf xs.toArray n)) (gc : G ac = none) (hl : h.get? li = some (listOf ys.toArray ny)) (hla : li ≠ ac)
    (hz : xs.length ≤ 1000) (hz2 : ys.length ≤ 1000)
    (hR : ∀ h' tk' o' n' (ti tt : Addr) u v, Keep [dx, ac] h h' → h'.get? dx = some o' → NO o' (c + 1) ac → h'.get? ac = some (listOf (xs ++ [Value.ref tt]).toArray n') →
      (∀ p ∈ [(tt, tupOf #[.str kind t, .int c u, .ref ti, .none] 0), (ti, tupOf ys.toArray 0)], h'.get? p.1 = some p.2 ∧ h.get? p.1 = none) → [tt, ti].Nodup → R (.ok (.ret (.int c v))) (S s₀ h' tk')) :
    codeAny (MM w) A (.call (.ref 265) ⟨[.ref x, .str kind t, .ref li], []⟩) R (S s₀ h tk) := by
  obtain ⟨a0, t0, b1, b2, hF⟩ := id hN
  have hxa : x ≠ ac := by rintro rfl; rw [hc] at hx; cases hx
  have hda : dx ≠ ac := by rintro rfl; rw [hc] at hd; exact seq_ne_FD hF (Option.some.inj hd)
  have hxd : x ≠ dx := by rintro rfl; rw [hx] at hd; exact inst_ne_FD hF (Option.some.inj hd)
  have hld : li ≠ dx := by rintro rfl; rw [hl] at hd; exact seq_ne_FD hF (Option.some.inj hd)
  refine enter (f := 265) (W := [(dx, o), (ac, listOf xs.toArray n)]) (nm := [Str.ofString "self", Str.ofString "kind", Str.ofString "ins", Str.ofString "param", Str.ofString "out"]) (vs := [some (.ref x), some (.str kind t), some (.ref li), some .none, none])
    (binds := [(Str.ofString "self", .ref x), (Str.ofString "kind", .str kind t), (Str.ofString "ins", .ref li), (Str.ofString "param", .none)]) HA Γ kp rfl rfl ?_ rfl rfl (by decide +kernel) ⟨rfl, rfl, rfl, rfl, trivial⟩
    (fun p hp => ?_) (by simpa using hda) ?_
  · exact BindsTo.of_defaults (T := 258) rfl (Γ.kin kp _ _ rfl) rfl rfl rfl
  · simp only [List.mem_cons, List.not_mem_nil, or_false] at hp
    rcases hp with rfl | rfl
    · exact ⟨hd, gd⟩
    · exact ⟨hc, gc⟩
  intro A' G' L h₁ tk₁ HA' Γ' kg D hA'
  have gx' := kg _ _ hx (by simpa using ⟨hxd, hxa⟩)
  have gl' := kg _ _ hl (by simpa using ⟨hld, hla⟩)
  have hm1 := hN.meth1
  repeat walk_at "m.step"
  refine w_new_net (HA'.le (by omega)) Γ' (by walk_at "m.D") (.inl gx') (by walk_at "m.mem") hN fun h3 tk3 o3 t3 hN3 H3 => ?_
  walk_at "m.up"
  have hm4 := hN3.meth4
  repeat walk_at "m.step"
  rename Mem _ _ _ _ _ _ => D₂
  have D₂ := D₂.perm (List.perm_append_comm (l₁ := [_]) (l₂ := [_]))
  refine w_ndrive (σ := [(dx, o3)]) (HA'.le (by omega)) Γ' D₂ (.inl gx') (.inr (.head _)) hN3 (.inl gl') hz hz2 fun h4 tk4 n4 ti tt D4 => ?_
  repeat walk_at "m.step"
  have ndd := D4.nd
  simp only [List.map_cons, List.map_nil, List.nodup_cons, List.mem_cons, List.not_mem_nil, or_false, not_or, List.map_append, List.cons_append, List.nil_append] at ndd
  refine hR _ _ o3 n4 ti tt t3 t3 (D4.kept kg) (D4.get (.tail _ (.tail _ (.tail _ (.head _))))) hN3 (D4.get (.tail _ (.tail _ (.head _)))) (fun p hp => ?_) ?_
  · simp only [List.mem_cons, List.not_mem_nil, or_false] at hp
    rcases hp with rfl | rfl
    · exact ⟨D4.get (.head _), D4.newer kg (.head _) (by simp only [List.map_cons, List.map_nil, List.mem_cons, List.not_mem_nil, or_false]; grind)⟩
    · exact ⟨D4.get (.tail _ (.head _)), D4.newer kg (.tail _ (.head _)) (by simp only [List.map_cons, List.map_nil, List.mem_cons, List.not_mem_nil, or_false]; grind)⟩
  · simp only [List.nodup_cons, List.mem_cons, List.not_mem_nil, or_false, List.nodup_nil, and_true, not_false_eq_true]
    grind
/-! E6 -/
local macro_rules | `(tactic| walk_at "m.attr") => `(tactic| ((with_reducible refine' f_get ?Gn ?D ?kx ?kd (FD.fld ?FF ?ax) ?_ ?g ?h ?a ?v); (case Gn => assumption); (case D => walk_at "m.D"); (case kx => walk_at "m.kn"); (case kd => walk_at "m.kn"); (case FF => assumption); (case ax => walk_at "m.ato"); (case g => exact rfl); (case h => exact rfl); (case a => exact rfl); (case v => first | exact rfl | assumption); intro _))
theorem Room.typeCall {A : Around} {n : Nat} {C : Addr} {rest : List Value} (r : Room A (n + 1)) : Room (A.under (.builtin "type.__call__" ⟨.ref C :: rest, []⟩)) n := by
  have hw : (Code.builtin "type.__call__" ⟨.ref C :: rest, []⟩).weight = 1 := by with_unfolding_all rfl
  have hu : (Code.builtin "type.__call__" ⟨.ref C :: rest, []⟩).cUnits = 1 := by with_unfolding_all rfl
  have h1 := r.depth
  have h2 := r.units
  refine ⟨r.hd, ?_, ?_⟩
  · show A.depth + (Code.builtin "type.__call__" ⟨.ref C :: rest, []⟩).weight + n < 1000
    rw [hw]; omega
  · show A.units + (Code.builtin "type.__call__" ⟨.ref C :: rest, []⟩).cUnits + 8 * n < 9900
    rw [hu]; omega
section
variable {w : World} {A : Around} {G : Gh} {L : Addr} {nm : List Str} {vs vs' : List (Option Value)} {σ σr : List (Addr × Obj)} {h : Heap} {s₀ : Shared} {tk : Nat} {env : Env}
theorem nd_two {a b : Addr × Obj} {r : List (Addr × Obj)} (D : Mem G L nm vs (a :: b :: r) h) : a.1 ≠ b.1 := fun e => (List.nodup_cons.mp D.nd).1 (List.mem_map.mpr ⟨b, .head _, e.symm⟩)
theorem w_Signal {a1 a2 a3 a4 a5 a6 a7 : Value} {Q : Value → Shared → Prop} (HA : Room A 7) (Γ : Gnd w G) (D : Mem G L nm vs σ h)
    (hQ : ∀ h' tk' x dx o t, Mem G L nm vs ((x, instObj 143 dx) :: (dx, o) :: σ) h' → FD o nfS [some a1, some a2, some a3, some a4, some a5, some a6, some a7, some .none, some .none, some .none, some (.int (-1) t), some (.bool false), none] → Q (.ref x) (S s₀ h' tk')) :
    wpAny (MM w) A (call (.ref 143) [a1, a2, a3, a4, a5, a6, a7]) Q F0 (S s₀ h tk) := by
  refine mk (nf := nfS) (fI := 105) Γ D rfl rfl rfl fun x dx h1 o D1 hF => ?_
  refine c_Signal (HA.le (by omega) : Room A 6).typeCall Γ D1.keep (D1.get (.head _)) (D1.get (.tail _ (.head _))) (D1.off _ (.tail _ (.head _))).2 (nd_two D1) hF fun h' tk' o' t kp ho hF' => ?_
  exact ⟨rfl, hQ h' tk' x dx o' t (D1.after1 kp (.tail .head) ho) hF'⟩
theorem w_Design {Q : Value → Shared → Prop} (HA : Room A 7) (Γ : Gnd w G) (D : Mem G L nm vs σ h)
    (hQ : ∀ h' tk' x dx o al ap bp ob, Mem G L nm vs ([(al, listOf #[] 0), (ap, listOf #[] 0), (bp, ob)] ++ ([(dx, o)] ++ ((x, instObj 206 dx) :: σ))) h' → Fld o "signals" (some (.ref al)) → Fld o "ports" (some (.ref ap)) → Fld o "by_path" (some (.ref bp)) → Fld o "add_signal" none → SD w bp ob [] → Q (.ref x) (S s₀ h' tk')) :
    wpAny (MM w) A (call (.ref 206) []) Q F0 (S s₀ h tk) := by
  refine mk (nf := nfD) (fI := 161) Γ D rfl rfl rfl fun x dx h1 o D1 hF => ?_
  refine c_Design (HA.le (by omega) : Room A 6).typeCall Γ D1.keep (D1.get (.head _)) (D1.get (.tail _ (.head _))) (D1.off _ (.tail _ (.head _))).2 (nd_two D1) hF fun h' tk' o' al ap bp ob kp ho f1 f2 f3 f4 sd hn nd => ?_
  have D2 := D1.perm (List.Perm.swap (dx, o) (x, instObj 206 dx) σ)
  refine ⟨rfl, hQ h' tk' x dx o' al ap bp ob (D2.callW (W := [(dx, o)]) (W' := [(dx, o')]) kp rfl (fun p hp => by rw [List.mem_singleton.mp hp]; exact ho) hn (by simpa using nd)) f1 f2 f3 f4 sd⟩
theorem w_Wires {Q : Value → Shared → Prop} (HA : Room A 7) (Γ : Gnd w G) (D : Mem G L nm vs σ h)
    (hQ : ∀ h' tk' x dx o an ad on od, Mem G L nm vs ([(an, on), (ad, od)] ++ ([(dx, o)] ++ ((x, instObj 52 dx) :: σ))) h' → Fld o "nets" (some (.ref an)) → Fld o "drivers" (some (.ref ad)) → Fld o "drive" none → ID w an on [] → TD w ad od [] → Q (.ref x) (S s₀ h' tk')) :
    wpAny (MM w) A (call (.ref 52) []) Q F0 (S s₀ h tk) := by
  refine mk (nf := nfW) (fI := 35) Γ D rfl rfl rfl fun x dx h1 o D1 hF => ?_
  refine c_Wires (HA.le (by omega) : Room A 6).typeCall Γ D1.keep (D1.get (.head _)) (D1.get (.tail _ (.head _))) (D1.off _ (.tail _ (.head _))).2 (nd_two D1) hF fun h' tk' o' an ad on od kp ho f1 f2 f3 hI hT hn nd => ?_
  have D2 := D1.perm (List.Perm.swap (dx, o) (x, instObj 52 dx) σ)
  refine ⟨rfl, hQ h' tk' x dx o' an ad on od (D2.callW (W := [(dx, o)]) (W' := [(dx, o')]) kp rfl (fun p hp => by rw [List.mem_singleton.mp hp]; exact ho) hn (by simpa using nd)) f1 f2 f3 hI hT⟩
theorem w_Netlist {a1 : Value} {Q : Value → Shared → Prop} (HA : Room A 7) (Γ : Gnd w G) (D : Mem G L nm vs σ h)
    (hQ : ∀ h' tk' x dx o ac, Mem G L nm vs ([(ac, listOf #[] 0)] ++ ([(dx, o)] ++ ((x, instObj 290 dx) :: σ))) h' → NO o 2 ac → Q (.ref x) (S s₀ h' tk')) :
    wpAny (MM w) A (call (.ref 290) [a1]) Q F0 (S s₀ h tk) := by
  refine mk (nf := nfN) (fI := 231) Γ D rfl rfl rfl fun x dx h1 o D1 hF => ?_
  refine c_Netlist (HA.le (by omega) : Room A 6).typeCall Γ D1.keep (D1.get (.head _)) (D1.get (.tail _ (.head _))) (D1.off _ (.tail _ (.head _))).2 (nd_two D1) hF fun h' tk' o' ac kp ho hN hn => ?_
  have D2 := D1.perm (List.Perm.swap (dx, o) (x, instObj 290 dx) σ)
  refine ⟨rfl, hQ h' tk' x dx o' ac (D2.callW (W := [(dx, o)]) (W' := [(dx, o')]) kp rfl (fun p hp => by rw [List.mem_singleton.mp hp]; exact ho) (fun p hp => by rw [List.mem_singleton.mp hp]; exact hn) (by simp)) hN⟩
end

theorem w_add_signal {w : World} {A : Around} {G : Gh} {L : Addr} {nm : List Str} {vs : List (Option Value)} {σr : List (Addr × Obj)} {h : Heap} {s₀ : Shared} {tk : Nat} {x dd al bp : Addr} {od ob : Obj} {xs : List Value} {n : Nat} {bkvs : List (Str × Value)} {path kind : Str} {t1 t2 : Tok} {a3 a4 a5 a6 at_ : Value} {Q : Value → Shared → Prop}
    (HA : Room A 15) (Γ : Gnd w G) (D : Mem G L nm vs ([(al, listOf xs.toArray n), (bp, ob)] ++ σr) h) (gx : G x = some (instObj 206 dd)) (gd : G dd = some od) (f1 : Fld od "signals" (some (.ref al))) (f2 : Fld od "by_path" (some (.ref bp))) (hS : SD w bp ob bkvs) (hz : xs.length ≤ 1000) (hz2 : bkvs.length ≤ 1000)
    (hQ : ∀ h' tk' sx sd so ob' n' t, Mem G L nm vs ([(sx, instObj 143 sd), (sd, so)] ++ ([(al, listOf (xs ++ [Value.ref sx]).toArray n'), (bp, ob')] ++ σr)) h' → FD so nfS [some (.int xs.length t), some (.str path t1), some (.str kind t2), some a3, some a4, some a5, some a6, some .none, some .none, some .none, some at_, some (.bool false), none] →
      SD w bp ob' (stored bkvs path (.int xs.length t)) → Q (.ref sx) (S s₀ h' tk')) :
    wpAny (MM w) A (call (.ref 168) [.ref x, .str path t1, .str kind t2, a3, a4, a5, a6, at_]) Q F0 (S s₀ h tk) := by
  have gal : G al = none := (D.off _ (.head _)).2
  have gbp : G bp = none := (D.off _ (.tail _ (.head _))).2
  refine wpAny_call (enter (f := 168) (W := [(al, listOf xs.toArray n), (bp, ob)]) (nm := [Str.ofString "self", Str.ofString "path", Str.ofString "kind", Str.ofString "width", Str.ofString "signed", Str.ofString "msb", Str.ofString "lsb", Str.ofString "at", Str.ofString "signal"])
    (vs := [some (.ref x), some (.str path t1), some (.str kind t2), some a3, some a4, some a5, some a6, some at_, none])
    (binds := [(Str.ofString "self", .ref x), (Str.ofString "path", .str path t1), (Str.ofString "kind", .str kind t2), (Str.ofString "width", a3), (Str.ofString "signed", a4), (Str.ofString "msb", a5), (Str.ofString "lsb", a6), (Str.ofString "at", at_)]) HA Γ D.keep rfl rfl (BindsTo.of_eq rfl) rfl rfl (by decide +kernel) ⟨rfl, rfl, rfl, rfl, rfl, rfl, rfl, rfl, trivial⟩
    (fun p hp => ⟨D.get (List.mem_append_left _ hp), (D.off _ (List.mem_append_left _ hp)).2⟩) ?_ ?_)
  · have := D.nd
    rw [List.map_append] at this
    exact (List.nodup_append.mp this).1
  intro A' G' L' h₁ tk₁ HA' Γ' kg D1 hA'
  have lt : ∀ a o, G a = some o → G' a = some o := fun a o e => kg a o (D.keep a o e) (by
    simp only [List.map_cons, List.map_nil, List.mem_cons, List.not_mem_nil, or_false]
    rintro (rfl | rfl)
    · rw [gal] at e; cases e
    · rw [gbp] at e; cases e)
  have gx' := lt _ _ gx
  have gd' := lt _ _ gd
  repeat walk_at "m.step"
  refine l_len (xs := xs) (by walk_at "m.D") (.inr (.head _)) (by omega) fun tl tkl => ?_
  repeat walk_at "m.step"
  refine w_Signal (HA'.le (by omega)) Γ' (by walk_at "m.D") fun h2 tk2 sx sd so t0 D2 hFS => ?_
  have hz3 : xs.length ≤ 2 ^ 20 := by omega
  repeat walk_at "m.step"
  refine sd_set (by walk_at "m.D") (by walk_at "m.mem") hS (by omega) fun h3 tk3 ob3 hS3 H3 => ?_
  walk_at "m.up"
  repeat walk_at "m.step"
  rename Mem _ _ _ _ _ _ => D₂
  rename FD _ _ _ => hF₂
  have ndd := D₂.nd
  simp only [List.map_cons, List.map_nil, List.nodup_cons, List.mem_cons, List.not_mem_nil, or_false, not_or] at ndd
  obtain ⟨n', hal⟩ : ∃ n', h3.get? al = some (listOf (xs ++ [Value.ref sx]).toArray n') := ⟨_, D₂.get (.tail _ (.tail _ (.head _)))⟩
  refine hQ _ _ sx sd _ ob3 n' tl (D.callW (W := [(al, listOf xs.toArray n), (bp, ob)]) (D₂.kept kg) rfl (fun p hp => ?_) (fun p hp => ?_) ?_) hF₂ hS3
  · simp only [List.mem_cons, List.not_mem_nil, or_false] at hp
    rcases hp with rfl | rfl
    · exact hal
    · exact D₂.get (.tail _ (.tail _ (.tail _ (.head _))))
  · simp only [List.mem_cons, List.not_mem_nil, or_false] at hp
    rcases hp with rfl | rfl
    · exact ⟨D₂.get (.head _), D₂.newer kg (.head _) (by simp only [List.map_cons, List.map_nil, List.mem_cons, List.not_mem_nil, or_false]; grind)⟩
    · exact ⟨D₂.get (.tail _ (.head _)), D₂.newer kg (.tail _ (.head _)) (by simp only [List.map_cons, List.map_nil, List.mem_cons, List.not_mem_nil, or_false]; grind)⟩
  · simp only [List.map_cons, List.map_nil, List.nodup_cons, List.mem_cons, List.not_mem_nil, or_false, List.nodup_nil, and_true, not_false_eq_true]
    grind
/-! E7 -/
/-- the drivers' table while it grows: the keys' tuples known, the lists own -/
def DrvS (w : World) (K : Addr → Obj → Prop) (xs : List (List Int × Addr × Value)) (dl : List (Addr × Obj)) (roots : List (List Int)) : Prop :=
  xs.length = dl.length ∧ xs.length = roots.length ∧ ∀ (i : Nat) (x : List Int × Addr × Value) (p : Addr × Obj) (rt : List Int), xs[i]? = some x → dl[i]? = some p → roots[i]? = some rt →
    (∃ ok, K x.2.1 ok ∧ IsPair ok ∧ TupKeyObj (ik w) x.1 ok) ∧ x.2.2 = .ref p.1 ∧ ∃ ys n, p.2 = listOf ys.toArray n ∧ IntsAre ys rt
theorem DrvS.nil {w : World} {K : Addr → Obj → Prop} : DrvS w K [] [] [] := ⟨rfl, rfl, fun i x p rt h => by simp at h⟩
theorem DrvS.mono {w : World} {K K' : Addr → Obj → Prop} {xs : List (List Int × Addr × Value)} {dl : List (Addr × Obj)} {roots : List (List Int)} (S : DrvS w K xs dl roots) (k : ∀ a o, K a o → K' a o) : DrvS w K' xs dl roots :=
  ⟨S.1, S.2.1, fun i x p rt h1 h2 h3 => let ⟨⟨ok, a, b⟩, r⟩ := S.2.2 i x p rt h1 h2 h3; ⟨⟨ok, k _ _ a, b⟩, r⟩⟩
theorem DrvS.at_ {w : World} {K : Addr → Obj → Prop} {xs : List (List Int × Addr × Value)} {dl : List (Addr × Obj)} {roots : List (List Int)} (S : DrvS w K xs dl roots) {i : Nat} {x : List Int × Addr × Value} (hx : xs[i]? = some x) : ∃ p rt, dl[i]? = some p ∧ roots[i]? = some rt := by
  have hi := (List.getElem?_eq_some_iff.mp hx).1
  have h1 : i < dl.length := S.1 ▸ hi
  have h2 : i < roots.length := S.2.1 ▸ hi
  exact ⟨dl[i], roots[i], by simp [h1], by simp [h2]⟩
theorem Rep.set {l : Addr} {o o' : Obj} : ∀ {dl : List (Addr × Obj)} {i : Nat}, dl[i]? = some (l, o) → Rep l o o' dl (dl.set i (l, o'))
  | [], i, h => by simp at h
  | p :: r, 0, h => by
    simp only [List.getElem?_cons_zero, Option.some.injEq] at h
    subst h
    exact .head
  | p :: r, i + 1, h => .tail (Rep.set (by simpa using h))
theorem getElem?_snoc {α : Type} {xs : List α} {a y : α} {i : Nat} (h : (xs ++ [a])[i]? = some y) : xs[i]? = some y ∨ (i = xs.length ∧ y = a) := by
  by_cases hi : i < xs.length
  · rw [List.getElem?_append_left hi] at h
    exact .inl h
  · rw [List.getElem?_append_right (Nat.le_of_not_lt hi)] at h
    have hlt := (List.getElem?_eq_some_iff.mp h).1
    simp only [List.length_singleton] at hlt
    have e : i = xs.length := by omega
    subst e
    simp at h
    exact .inr ⟨rfl, h.symm⟩
theorem TD.nd {w : World} {d : Addr} {o : Obj} {xs : List (List Int × Addr × Value)} (T : TD w d o xs) : (xs.map (·.1)).Nodup := by obtain ⟨_, _, _, _, _, _, z⟩ := T; exact z
theorem atKey_index {xs : List (List Int × Addr × Value)} {ks : List Int} {p : Addr × Value} (h : atKey xs ks = some p) : ∃ i : Nat, xs[i]? = some (ks, p) := by
  unfold atKey at h
  obtain ⟨x, hx, rfl⟩ := Option.map_eq_some_iff.mp h
  have h1 := List.mem_of_find?_eq_some hx
  have h2 : x.1 = ks := of_decide_eq_true (List.find?_some (p := fun y : List Int × Addr × Value => decide (y.1 = ks)) hx)
  obtain ⟨i, hi⟩ := List.mem_iff_getElem?.mp h1
  exact ⟨i, by rw [hi, ← h2]⟩

theorem w_drive {w : World} {A : Around} {G : Gh} {L : Addr} {nm : List Str} {vs : List (Option Value)} {dl σr : List (Addr × Obj)} {h : Heap} {s₀ : Shared} {tk : Nat} {x dw ad : Addr} {o ow : Obj} {xs : List (List Int × Addr × Value)} {roots : List (List Int)} {k b n : Int} {t1 t2 t3 : Tok} {Q : Value → Shared → Prop} {K : Addr → Obj → Prop} (hK : ∀ a ob, K a ob → G a = some ob)
    (HA : Room A 6) (Γ : Gnd w G) (D : Mem G L nm vs (((ad, o) :: dl) ++ σr) h) (gx : G x = some (instObj 52 dw)) (gd : G dw = some ow) (hF : Fld ow "drivers" (some (.ref ad))) (T : TD w ad o xs) (hS : DrvS w K xs dl roots) (hz : xs.length ≤ 10) (hzl : ∀ r ∈ roots, r.length ≤ 10)
    (hQ : ∀ h' tk' o' xs' dl' roots' pl op, Mem G L nm vs ([(pl, op)] ++ (((ad, o') :: dl') ++ σr)) h' → TD w ad o' xs' → DrvS w (fun a ob => K a ob ∨ (a = pl ∧ ob = op)) xs' dl' roots' → roots'.length ≤ roots.length + 1 →
      (∀ m, (∀ r ∈ roots, r.length ≤ m) → ∀ r ∈ roots', r.length ≤ m + 1) → Q .none (S s₀ h' tk')) :
    wpAny (MM w) A (call (.ref 42) [.ref x, .int k t1, .int b t2, .int n t3]) Q F0 (S s₀ h tk) := by
  refine wpAny_call (enter (f := 42) (W := (ad, o) :: dl) (nm := [Str.ofString "self", Str.ofString "key", Str.ofString "bit", Str.ofString "net", Str.ofString "place"]) (vs := [some (.ref x), some (.int k t1), some (.int b t2), some (.int n t3), none])
    (binds := [(Str.ofString "self", .ref x), (Str.ofString "key", .int k t1), (Str.ofString "bit", .int b t2), (Str.ofString "net", .int n t3)]) HA Γ D.keep rfl rfl (BindsTo.of_eq rfl) rfl rfl (by decide +kernel) ⟨rfl, rfl, rfl, rfl, trivial⟩
    (fun p hp => ⟨D.get (List.mem_append_left _ hp), (D.off _ (List.mem_append_left _ hp)).2⟩) ?_ ?_)
  · have := D.nd
    rw [List.map_append] at this
    exact (List.nodup_append.mp this).1
  intro A' G' L' h₁ tk₁ HA' Γ' kg D1 hA'
  have lt : ∀ a ob, G a = some ob → G' a = some ob := fun a ob e => kg a ob (D.keep a ob e) fun m => by
    obtain ⟨p, hp, rfl⟩ := List.mem_map.mp m
    rw [(D.off p (List.mem_append_left _ hp)).2] at e; cases e
  have gx' := lt _ _ gx
  have gd' := lt _ _ gd
  have S' := hS.mono fun a ob q => lt a ob (hK a ob q)
  have hu : A'.units + 1 < cLine := by have := HA'.units; show A'.units + 1 < 9900; omega
  have hTK : ∀ σ, TKs w G' σ xs := fun σ y m => by
    obtain ⟨i, hi⟩ := List.mem_iff_getElem?.mp m
    obtain ⟨p, rt, h1, h2⟩ := S'.at_ hi
    obtain ⟨⟨ok, a, _, c⟩, _⟩ := S'.2.2 i y p rt hi h1 h2
    exact ⟨ok, .inl a, c⟩
  have hxn : (xs.map (·.1)).Nodup := by obtain ⟨_, _, _, _, _, _, z⟩ := T; exact z
  have hta : TupKeyObj (ik w) [k, b] (tupOf #[.int k t1, .int b t2] 0) := ⟨rfl, _, _, rfl, .cons (intKind_is PG w k t1) (.cons (intKind_is PG w b t2) .nil)⟩
  have hpo : IsPair (tupOf #[.int k t1, .int b t2] 0) := ⟨_, _, _, _, _, rfl⟩
  repeat walk_at "m.step"
  refine td_notin hu (by walk_at "m.D") (.inr (by walk_at "m.mem")) T (hTK _) (.inr (.head _)) hta fun tk2 => ?_
  repeat walk_at "m.step"
  refine ite_b (fun e => ?_) (fun e => ?_)
  · have hno : atKey xs [k, b] = none := by cases q : atKey xs [k, b] with
      | none => rfl
      | some p => rw [q] at e; simp at e
    have fin : ∀ (pl l : Addr) (n' : Nat) (o3 : Obj) (hh : Heap) (tkk : Nat) (vs3 : List (Option Value)), Mem G' L' [Str.ofString "self", Str.ofString "key", Str.ofString "bit", Str.ofString "net", Str.ofString "place"] vs3 ((l, listOf ([] ++ [Value.int n t3]).toArray n') :: (pl, tupOf #[.int k t1, .int b t2] 0) :: (ad, o3) :: dl) hh →
        TD w ad o3 (xs ++ [([k, b], pl, .ref l)]) → Q .none (S s₀ hh tkk) := fun pl l n' o3 hh tkk vs3 D₂ T3 => by
      have ndd := D₂.nd
      simp only [List.map_cons, List.nodup_cons, List.mem_cons, not_or] at ndd
      have D6 := D.callW (W := (ad, o) :: dl) (W' := (ad, o3) :: dl) (D₂.kept kg) rfl (fun p hp => D₂.get (.tail _ (.tail _ hp))) (news := [(pl, tupOf #[.int k t1, .int b t2] 0), (l, listOf ([] ++ [Value.int n t3]).toArray n')]) (fun p hp => by
        simp only [List.mem_cons, List.not_mem_nil, or_false] at hp
        rcases hp with rfl | rfl
        · refine ⟨D₂.get (.tail _ (.head _)), D₂.newer kg (.tail _ (.head _)) fun m => ?_⟩
          rcases List.mem_cons.mp m with m | m
          · exact ndd.2.1.1 m
          · exact ndd.2.1.2 m
        · refine ⟨D₂.get (.head _), D₂.newer kg (.head _) fun m => ?_⟩
          rcases List.mem_cons.mp m with m | m
          · exact ndd.1.2.1 m
          · exact ndd.1.2.2 m) (by simp only [List.map_cons, List.map_nil, List.nodup_cons, List.mem_cons, List.not_mem_nil, or_false, List.nodup_nil, and_true, not_false_eq_true]; exact fun e => ndd.1.1 e.symm)
      have D7 := D6.perm (σ' := [(pl, tupOf #[.int k t1, .int b t2] 0)] ++ (((ad, o3) :: (dl ++ [(l, listOf ([] ++ [Value.int n t3]).toArray n')])) ++ σr)) (by
        refine List.Perm.cons _ ((List.Perm.swap _ _ _).trans (List.Perm.cons _ ?_))
        show List.Perm (_ :: (dl ++ σr)) ((dl ++ [_]) ++ σr)
        rw [List.append_assoc]
        exact List.perm_middle.symm)
      refine hQ hh tkk o3 _ (dl ++ [(l, listOf ([] ++ [Value.int n t3]).toArray n')]) (roots ++ [[n]]) pl _ D7 T3 ⟨by simp [hS.1], by simp [hS.2.1], fun i y p rt h1 h2 h3 => ?_⟩ (by simp) (fun m hm r hr => ?_)
      · rcases getElem?_snoc h1 with h1 | ⟨rfl, rfl⟩
        · have hlt := (List.getElem?_eq_some_iff.mp h1).1
          rw [List.getElem?_append_left (hS.1 ▸ hlt)] at h2
          rw [List.getElem?_append_left (hS.2.1 ▸ hlt)] at h3
          obtain ⟨⟨ok, a1, a2⟩, r⟩ := hS.2.2 i y p rt h1 h2 h3
          exact ⟨⟨ok, .inl a1, a2⟩, r⟩
        · rw [hS.1, List.getElem?_append_right (Nat.le_refl _), Nat.sub_self] at h2
          rw [hS.2.1, List.getElem?_append_right (Nat.le_refl _), Nat.sub_self] at h3
          cases h2; cases h3
          exact ⟨⟨_, .inr ⟨rfl, rfl⟩, hpo, hta⟩, rfl, _, _, rfl, .cons _ _ .nil⟩
      · rcases List.mem_append.mp hr with hr | hr
        · exact Nat.le_succ_of_le (hm r hr)
        · rw [List.mem_singleton.mp hr]; simp
    repeat walk_at "m.step"
    refine td_set hu (by walk_at "m.D") (by walk_at "m.mem") T (hTK _) (.inr (by walk_at "m.mem")) hta (by omega) fun h3 tk3 o3 T3 H3 => ?_
    walk_at "m.up"
    repeat walk_at "m.step"
    rename Mem _ _ _ _ _ _ => D3
    rw [storedH_new hno] at T3
    have hnd3 := TD.nd T3
    have hak := atKey_of_get (k := [k, b]) (i := xs.length) hnd3 (by rw [List.getElem?_append_right (Nat.le_refl _), Nat.sub_self]; rfl)
    refine td_item hu D3 (.inr (by walk_at "m.mem")) T3 (fun y m => ?_) (.inr (.tail _ (.head _))) hta hak (fun tk4 => ?_) (by with_unfolding_all rfl)
    · rcases List.mem_append.mp m with m | m
      · exact hTK _ y m
      · rw [List.mem_singleton.mp m]
        exact ⟨_, .inr (.tail _ (.head _)), hta⟩
    have hz0 : ([] : List Value).length ≤ 2 ^ 20 := by simp
    repeat walk_at "m.step"
    rename Mem _ _ _ _ _ _ => D₂
    exact fin _ _ _ _ _ _ _ D₂ T3
  · obtain ⟨p, hak⟩ : ∃ p, atKey xs [k, b] = some p := by cases q : atKey xs [k, b] with
      | none => rw [q] at e; simp at e
      | some p => exact ⟨p, rfl⟩
    obtain ⟨i, hi⟩ := atKey_index hak
    obtain ⟨⟨l, lo⟩, rt, hdi, hri⟩ := S'.at_ hi
    obtain ⟨_, hxl, ys, ny, hlo, hys⟩ := S'.2.2 i _ _ rt hi hdi hri
    have hlo : lo = listOf ys.toArray ny := hlo
    subst hlo
    have hxl : p.2 = .ref l := hxl
    have hrl := hzl rt (List.mem_of_getElem? hri)
    have hyl := hys.length
    have fin : ∀ (pl : Addr) (n5 : Nat) (hh : Heap) (tkk : Nat) (vs3 : List (Option Value)), Mem G' L' [Str.ofString "self", Str.ofString "key", Str.ofString "bit", Str.ofString "net", Str.ofString "place"] vs3 ((pl, tupOf #[.int k t1, .int b t2] 0) :: (ad, o) :: dl.set i (l, listOf (ys ++ [Value.int n t3]).toArray n5)) hh →
        Q .none (S s₀ hh tkk) := fun pl n5 hh tkk vs3 D₂ => by
      refine hQ _ _ o xs (dl.set i (l, listOf (ys ++ [Value.int n t3]).toArray n5)) (roots.set i (rt ++ [n])) pl (tupOf #[.int k t1, .int b t2] 0) (D.callW (W := (ad, o) :: dl) (W' := (ad, o) :: dl.set i (l, listOf (ys ++ [Value.int n t3]).toArray n5)) (news := [(pl, tupOf #[.int k t1, .int b t2] 0)]) (D₂.kept kg) ?_ (fun p hp => D₂.get (.tail _ hp)) (fun p hp => ?_) (by simp)) T ?_ (by rw [List.length_set]; omega) (fun m hm r hr => ?_)
      · rw [List.map_cons, List.map_cons, (Rep.set hdi).adr]
      · rw [List.mem_singleton.mp hp]
        refine ⟨D₂.get (.head _), D₂.newer kg (.head _) fun m => ?_⟩
        have ndd := D₂.nd
        rw [List.map_cons, List.nodup_cons] at ndd
        refine ndd.1 ?_
        have he : ((ad, o) :: dl.set i (l, listOf (ys ++ [Value.int n t3]).toArray n5)).map (·.1) = ((ad, o) :: dl).map (·.1) := by
          rw [List.map_cons, List.map_cons, (Rep.set hdi).adr]
        rw [he]; exact m
      · refine ⟨by rw [List.length_set]; exact hS.1, by rw [List.length_set]; exact hS.2.1, fun j y p' rt' h1 h2 h3 => ?_⟩
        rw [List.getElem?_set] at h2 h3
        by_cases hij : i = j
        · subst hij
          rw [if_pos rfl, if_pos (List.getElem?_eq_some_iff.mp hdi).1] at h2
          rw [if_pos rfl, if_pos (List.getElem?_eq_some_iff.mp hri).1] at h3
          cases h2; cases h3
          rw [hi] at h1; cases h1
          obtain ⟨⟨ok, a1, a2⟩, _⟩ := hS.2.2 i _ _ rt hi hdi hri
          exact ⟨⟨ok, .inl a1, a2⟩, hxl, _, _, rfl, hys.append (.cons _ _ .nil)⟩
        · rw [if_neg hij] at h2 h3
          obtain ⟨⟨ok, a1, a2⟩, r⟩ := hS.2.2 j _ _ rt' h1 h2 h3
          exact ⟨⟨ok, .inl a1, a2⟩, r⟩
      · rcases List.mem_or_eq_of_mem_set hr with hr | rfl
        · exact Nat.le_succ_of_le (hm r hr)
        · rw [List.length_append]
          have := hm rt (List.mem_of_getElem? hri)
          simp; omega
    repeat walk_at "m.step"
    refine td_item hu (by walk_at "m.D") (.inr (by walk_at "m.mem")) T (hTK _) (.inr (.head _)) hta hak (fun tk4 => ?_) (by with_unfolding_all rfl)
    rw [hxl]
    have hmem : (l, listOf ys.toArray ny) ∈ dl := List.mem_of_getElem? hdi
    repeat walk_at "m.step"
    refine l_append (xs := ys) (by walk_at "m.D") (.tail _ (.tail _ hmem)) (by omega) fun h5 n5 H5 => ?_
    have D₂ := H5 _ (.tail (.tail (Rep.set hdi)))
    repeat walk_at "m.step"
    exact fin _ _ _ _ _ D₂
/-! M1 -/
theorem c_marble {w : World} {A : Around} {G : Gh} {h : Heap} {s₀ : Shared} {tk : Nat} {b : Addr} {R : Result → Shared → Prop} {xs : List Value} {ns : List Int} {n : Nat} {k : Int} {t : Tok}
    (HA : Room A 12) (Γ : Gnd w G) (kp : ∀ b o, G b = some o → h.get? b = some o) (hb : h.get? b = some (listOf xs.toArray n)) (gb : G b = none) (hi : IntsAre xs ns) (hz : xs.length ≤ 2 ^ 10) (hk : 0 < k)
    (hR : ∀ h' tk' t' xs' n', Keep [b] h h' → h'.get? b = some (listOf xs'.toArray n') → IntsAre xs' ns.tail → R (.ok (.ret (.int (if ns = [] then 0 else (ns.headD 0).fmod k) t'))) (S s₀ h' tk')) :
    codeAny (MM w) A (.call (.ref 308) ⟨[.ref b, .int k t], []⟩) R (S s₀ h tk) := by
  refine enter (f := 308) (W := [(b, listOf xs.toArray n)]) (nm := [Str.ofString "bag", Str.ofString "most"]) (vs := [some (.ref b), some (.int k t)]) (binds := [(Str.ofString "bag", .ref b), (Str.ofString "most", .int k t)]) HA Γ kp rfl rfl (BindsTo.of_eq rfl) rfl rfl (by decide +kernel) ⟨rfl, rfl, trivial⟩ ?_ ?_ ?_
  · intro p hp; rw [List.mem_singleton.mp hp]; exact ⟨hb, gb⟩
  · simp
  intro A' G' L h₁ tk₁ HA' Γ' kg D _
  repeat walk_at "m.step"
  refine' l_ne ?D ?k1 ?k2 hi .nil ?u ?_
  case D => assumption
  case k1 => walk_at "m.kn"
  case k2 => walk_at "m.kn"
  case u =>  have := HA'.units; show A'.units + 64 < 9900; omega
  walk_at "m.step"
  refine ite_b (fun e => ?_) (fun e => ?_)
  · cases hi with
    | nil => simp at e
    | @cons x u xs ns hi =>
    repeat walk_at "m.step"
    refine' l_pop0 ?D ?k ?z ?_
    case D => assumption
    case k => walk_at "m.mem"
    case z => simp at hz; omega
    intro h' n' H
    walk_at "m.up"
    rename_i D'
    repeat walk_at "m.step"
    refine i_mod (Int.ne_of_gt hk) ?_
    intro t' tk'
    have D'' := D'.tail
    refine hR _ _ _ xs n' (D''.kept kg) (D''.get (.head _)) hi
  · have e : ns = [] := by simpa using e
    subst e
    cases hi
    repeat walk_at "m.step"
    rename_i D' _ _
    have D'' := D'.tail
    exact hR _ _ _ [] n (D''.kept kg) (D''.get (.head _)) .nil
/-! E8 -/
/-- one taken to the front -/
inductive Pick (p : Addr × Obj) : List (Addr × Obj) → List (Addr × Obj) → Prop
  | head {r} : Pick p (p :: r) r
  | tail {q r r'} : Pick p r r' → Pick p (q :: r) (q :: r')
theorem Pick.perm {p : Addr × Obj} {σ r : List (Addr × Obj)} (k : Pick p σ r) : σ.Perm (p :: r) := by
  induction k with
  | head => exact List.Perm.refl _
  | tail _ ih => exact (List.Perm.cons _ ih).trans (List.Perm.swap _ _ _)
local macro_rules | `(tactic| walk_at "m.pick") => `(tactic| first | with_reducible exact Pick.head | (with_reducible apply Pick.tail; walk_at "m.pick"))
/-- the marbles -/
def BagO (o : Obj) : Prop := ∃ xs ns n, o = listOf xs.toArray n ∧ IntsAre xs ns ∧ xs.length ≤ 90
/-- what is known of things that h did not hold -/
def N0 (h : Heap) (g : Gh) : Gh := fun a => if (h.get? a).isSome then none else g a
theorem N0.le {h : Heap} {g : Gh} : Le (N0 h g) g := fun b o e => by
  unfold N0 at e
  split at e
  · cases e
  · exact e
theorem N0.mono {h : Heap} {g g' : Gh} (k : Le g g') : Le (N0 h g) (N0 h g') := fun b o e => by
  unfold N0 at e ⊢
  split at e
  · cases e
  · rename_i q; rw [if_neg q]; exact k b o e
theorem N0.new {h : Heap} {g : Gh} {b : Addr} {o : Obj} (e : N0 h g b = some o) : h.get? b = none := by
  unfold N0 at e
  split at e
  · cases e
  · rename_i q; simpa using q
theorem N0.of {h : Heap} {g : Gh} {b : Addr} {o : Obj} (e : g b = some o) (n : h.get? b = none) : N0 h g b = some o := by unfold N0; rw [n]; exact e
section
variable {w : World} {A : Around} {G : Gh} {L : Addr} {nm : List Str} {vs vs' : List (Option Value)} {σ σ' fr : List (Addr × Obj)} {h h0 : Heap} {s₀ : Shared} {tk : Nat} {env : Env}
theorem Mem.pick {p : Addr × Obj} {r : List (Addr × Obj)} (D : Mem G L nm vs σ h) (k : Pick p σ r) : Mem G L nm vs (p :: r) h := D.perm k.perm
/-- frozen, and new -/
theorem Mem.freeze0 {W : List Addr} (D : Mem G L nm vs (fr ++ σ) h) (Γ : Gnd w G) (kg : ∀ b o, h0.get? b = some o → b ∉ W → G b = some o) (hW : ∀ p ∈ fr, p.1 ∉ W) :
    ∃ G2, Le G G2 ∧ Gnd w G2 ∧ Mem G2 L nm vs σ h ∧ (∀ p ∈ fr, N0 h0 G2 p.1 = some p.2 ∧ G2 p.1 = some p.2) ∧ ∀ b o, h0.get? b = some o → b ∉ W → G2 b = some o := by
  obtain ⟨G2, le, Γ2, D2, hf⟩ := D.freeze Γ
  exact ⟨G2, le, Γ2, D2, fun p hp => ⟨N0.of (hf p hp) (D.newer (o := p.2) kg (List.mem_append_left _ hp) (hW p hp)), hf p hp⟩, fun b o e n => le _ _ (kg b o e n)⟩
theorem w_marble {b : Addr} {o : Obj} {k : Int} {t : Tok} {Q : Value → Shared → Prop} (HA : Room A 12) (Γ : Gnd w G) (D : Mem G L nm vs σ h) (hm : (b, o) ∈ σ) (hB : BagO o) (hk : 0 < k)
    (hQ : ∀ h' tk' t' o' v, BagO o' → (∀ σ', Rep b o o' σ σ' → Mem G L nm vs σ' h') → 0 ≤ v → v < k → Q (.int v t') (S s₀ h' tk')) : wpAny (MM w) A (call (.ref 308) [.ref b, .int k t]) Q F0 (S s₀ h tk) := by
  obtain ⟨xs, ns, n, rfl, hi, hl⟩ := hB
  refine wpAny_call (c_marble HA Γ D.keep (D.get hm) (D.off _ hm).2 hi (by omega) hk fun h' tk' t' xs' n' kp ho hi' => hQ h' tk' t' _ _ ⟨xs', ns.tail, n', rfl, hi', ?_⟩ (fun σ' r => D.after1 kp r ho) ?_ ?_)
  · have h1 := hi'.length
    have h2 := hi.length
    rw [List.length_tail] at h1
    omega
  · split
    · exact Int.le_refl _
    · exact Int.fmod_nonneg_of_pos _ hk
  · split
    · exact hk
    · exact Int.fmod_lt_of_pos _ hk
theorem w_new_nets {x dx ac : Addr} {o : Obj} {c : Int} {k : Nat} {t : Tok} {Q : Value → Shared → Prop} (HA : Room A 15) (Γ : Gnd w G) (D : Mem G L nm vs ((dx, o) :: σ) h) (gx : G x = some (instObj 290 dx)) (hN : NO o c ac) (hk : k ≤ 100)
    (hQ : ∀ h' tk' o' l ys n, Mem G L nm vs ((l, listOf ys.toArray n) :: (dx, o') :: σ) h' → NO o' (c + k) ac → IntsAre ys (iota c k) → Q (.ref l) (S s₀ h' tk')) : wpAny (MM w) A (call (.ref 243) [.ref x, .int k t]) Q F0 (S s₀ h tk) :=
  wpAny_call (c_new_nets HA Γ D.keep (D.keep _ _ gx) (D.get (.head _)) (D.off _ (.head _)).2 (Knows.ne D (.inl gx) (.inr (.head _)) (let ⟨_, _, _, _, f⟩ := hN; inst_ne_FD f)) hN hk fun h' tk' o' l ys n kp ho hN' hl hn hi =>
    hQ h' tk' o' l ys n (D.callW (W := [(dx, o)]) (W' := [(dx, o')]) (σr := σ) (news := [(l, listOf ys.toArray n)]) kp rfl (fun p hp => by rw [List.mem_singleton.mp hp]; exact ho) (fun p hp => by rw [List.mem_singleton.mp hp]; exact ⟨hl, hn⟩) (by simp)) hN' hi)
theorem w_add_cell {x dx ac li : Addr} {o : Obj} {c : Int} {kind : Str} {t : Tok} {xs ys : List Value} {n ny : Nat} {Q : Value → Shared → Prop} (HA : Room A 10) (Γ : Gnd w G) (D : Mem G L nm vs ([(dx, o), (ac, listOf xs.toArray n), (li, listOf ys.toArray ny)] ++ σ) h)
    (gx : G x = some (instObj 290 dx)) (hN : NO o c ac) (hz : xs.length ≤ 1000) (hz2 : ys.length ≤ 1000)
    (hQ : ∀ h' tk' o' n' (ti tt : Addr) u v, Mem G L nm vs ([(tt, tupOf #[.str kind t, .int c u, .ref ti, .none] 0), (ti, tupOf ys.toArray 0)] ++ ([(dx, o'), (ac, listOf (xs ++ [Value.ref tt]).toArray n')] ++ ((li, listOf ys.toArray ny) :: σ))) h' → NO o' (c + 1) ac → Q (.int c v) (S s₀ h' tk')) :
    wpAny (MM w) A (call (.ref 265) [.ref x, .str kind t, .ref li]) Q F0 (S s₀ h tk) := by
  have hla : li ≠ ac := fun e => by
    have := D.nd
    simp only [List.map_append, List.map_cons, List.map_nil, List.cons_append, List.nil_append, List.nodup_cons, List.mem_cons, not_or] at this
    exact this.2.1.1 e.symm
  refine wpAny_call (c_add_cell HA Γ D.keep (D.keep _ _ gx) (D.get (.head _)) (D.off _ (.head _)).2 hN (D.get (.tail _ (.head _))) (D.off _ (.tail _ (.head _))).2 (D.get (.tail _ (.tail _ (.head _)))) hla hz hz2 fun h' tk' o' n' ti tt u v kp ho hN' hc hn nd =>
    hQ h' tk' o' n' ti tt u v (Mem.callW (W := [(dx, o), (ac, listOf xs.toArray n)]) (W' := [(dx, o'), (ac, listOf (xs ++ [Value.ref tt]).toArray n')]) (σr := (li, listOf ys.toArray ny) :: σ) D kp rfl (fun p hp => ?_) hn (by simpa using nd)) hN')
  simp only [List.mem_cons, List.not_mem_nil, or_false] at hp
  rcases hp with rfl | rfl
  · exact ho
  · exact hc
end
/-! E9 -/
/-! what stands after the first i signals -/
structure St1 (look : Gh) (i : Nat) (c : Int) (ss : List Addr) (sg : List Bool) (nt : List (List Int)) (nkvs : List (Int × Value)) : Prop where
  ls : sg.length = i
  ln : nt.length = i
  sigs : SigsOK look ss sg
  nk : nkvs.length = i
  keys : ∀ x, (valueAt nkvs x).isSome = true → x < (i : Int)
  nets : ∀ (k : Nat) (ns : List Int), nt[k]? = some ns → ∃ l, valueAt nkvs (k : Int) = some (.ref l) ∧ IntList look l ns
  n4 : ∀ ns ∈ nt, ns.length ≤ 4
  lt : ∀ ns ∈ nt, ∀ n ∈ ns, n < c
  disj : ∀ (i j : Nat) (xs ys : List Int) (n : Int), nt[i]? = some xs → nt[j]? = some ys → n ∈ xs → n ∈ ys → i = j
theorem St1.nil {look : Gh} {c : Int} : St1 look 0 c [] [] [] [] :=
  ⟨rfl, rfl, ⟨rfl, fun k a p h => by simp at h⟩, rfl, (fun x h => by cases h), fun k ns h => by simp at h, (fun ns h => nomatch h), (fun ns h => nomatch h), fun i j xs ys n h => by simp at h⟩
theorem St1.mono {look look' : Gh} {i : Nat} {c : Int} {ss : List Addr} {sg : List Bool} {nt : List (List Int)} {nkvs : List (Int × Value)} (k : Le look look') (S : St1 look i c ss sg nt nkvs) : St1 look' i c ss sg nt nkvs :=
  ⟨S.ls, S.ln, S.sigs.mono k, S.nk, S.keys, fun j ns h => let ⟨l, a, b⟩ := S.nets j ns h; ⟨l, a, b.mono k⟩, S.n4, S.lt, S.disj⟩
theorem St1.more {look : Gh} {i : Nat} {c : Int} {ss : List Addr} {sg : List Bool} {nt : List (List Int)} {nkvs : List (Int × Value)} (S : St1 look i c ss sg nt nkvs) {sx l : Addr} {p : Bool} {m : Nat} (hs : SigOK look i p sx) (hl : IntList look l (iota c m)) (hm : m ≤ 4) :
    St1 look (i + 1) (c + m) (ss ++ [sx]) (sg ++ [p]) (nt ++ [iota c m]) (stored nkvs (i : Int) (.ref l)) := by
  have hnone : valueAt nkvs (i : Int) = none := by
    cases q : valueAt nkvs (i : Int) with
    | none => rfl
    | some v => have := S.keys i (by rw [q]; rfl); omega
  have old : ∀ {k : Nat} {ns : List Int}, nt[k]? = some ns → k < i := fun {k ns} e => by have := (List.getElem?_eq_some_iff.mp e).1; rw [S.ln] at this; exact this
  refine ⟨by simp [S.ls], by simp [S.ln], ⟨by simp [S.sigs.1], fun k a q ha hq => ?_⟩, ?_, fun x hx => ?_, fun k ns hk => ?_, fun ns hns => ?_, fun ns hns n hn => ?_, fun k j xs ys n hk hj hx hy => ?_⟩
  · rcases getElem?_snoc ha with ha | ⟨rfl, rfl⟩
    · have hlt := (List.getElem?_eq_some_iff.mp ha).1
      rw [List.getElem?_append_left (S.sigs.1 ▸ hlt)] at hq
      exact S.sigs.2 k a q ha hq
    · rw [S.sigs.1, List.getElem?_append_right (Nat.le_refl _), Nat.sub_self] at hq
      cases hq
      rw [S.sigs.1, S.ls]
      exact hs
  · rw [stored_absent hnone, List.length_append, S.nk]; rfl
  · rw [valueAt_stored] at hx
    split at hx
    · rename_i e; rw [e]; omega
    · have := S.keys x hx; omega
  · rw [valueAt_stored]
    rcases getElem?_snoc hk with hk | ⟨rfl, rfl⟩
    · have := old hk
      rw [if_neg (by omega)]
      exact S.nets k ns hk
    · rw [S.ln, if_pos rfl]
      exact ⟨l, rfl, hl⟩
  · rcases List.mem_append.mp hns with hns | hns
    · exact S.n4 ns hns
    · rw [List.mem_singleton.mp hns, iota_len]; exact hm
  · rcases List.mem_append.mp hns with hns | hns
    · have := S.lt ns hns n hn; omega
    · rw [List.mem_singleton.mp hns] at hn
      exact (mem_iota.mp hn).2
  · rcases getElem?_snoc hk with hk | ⟨rfl, rfl⟩
    · rcases getElem?_snoc hj with hj | ⟨rfl, rfl⟩
      · exact S.disj k j xs ys n hk hj hx hy
      · have h1 := S.lt _ (List.mem_of_getElem? hk) n hx
        have h2 := (mem_iota.mp hy).1
        omega
    · rcases getElem?_snoc hj with hj | ⟨rfl, rfl⟩
      · have h1 := S.lt _ (List.mem_of_getElem? hj) n hy
        have h2 := (mem_iota.mp hx).1
        omega
      · rfl
/-! what stands after the cells -/
structure St2 (look : Gh) (j : Nat) (c : Int) (cs : List Addr) (ce : List (Int × List Int)) : Prop where
  lc : ce.length = j
  cells : All2 (CellOK look) cs ce
  lt : ∀ x ∈ ce, x.1 < c
  nd : (ce.map (·.1)).Nodup
  i2 : ∀ x ∈ ce, x.2.length ≤ 2
theorem St2.nil {look : Gh} {c : Int} : St2 look 0 c [] [] := ⟨rfl, .nil, (fun x h => nomatch h), List.nodup_nil, fun x h => nomatch h⟩
theorem St2.mono {look look' : Gh} {j : Nat} {c : Int} {cs : List Addr} {ce : List (Int × List Int)} (k : Le look look') (S : St2 look j c cs ce) : St2 look' j c cs ce := ⟨S.lc, S.cells.mono fun _ _ => CellOK.mono k, S.lt, S.nd, S.i2⟩
theorem St2.more {look : Gh} {j : Nat} {c : Int} {cs : List Addr} {ce : List (Int × List Int)} (S : St2 look j c cs ce) {a : Addr} {ins : List Int} (hc : CellOK look a (c, ins)) (hi : ins.length ≤ 2) : St2 look (j + 1) (c + 1) (cs ++ [a]) (ce ++ [(c, ins)]) := by
  refine ⟨by simp [S.lc], S.cells.snoc hc, fun x hx => ?_, ?_, fun x hx => ?_⟩
  · rcases List.mem_append.mp hx with hx | hx
    · have := S.lt x hx; omega
    · rw [List.mem_singleton.mp hx]; show c < c + 1; omega
  · rw [List.map_append]
    refine List.nodup_append.mpr ⟨S.nd, by simp, fun a ha b hb e => ?_⟩
    obtain ⟨x, hx, rfl⟩ := List.mem_map.mp ha
    have hb : b = c := by simpa using hb
    have := S.lt x hx
    rw [e, hb] at this
    omega
  · rcases List.mem_append.mp hx with hx | hx
    · exact S.i2 x hx
    · rw [List.mem_singleton.mp hx]; exact hi
/-! EA -/
def Fz (look : Gh) (ps : List (Addr × Obj)) : Prop := ∀ p ∈ ps, look p.1 = some p.2
theorem Fz.mono {look look' : Gh} {ps : List (Addr × Obj)} (k : Le look look') (F : Fz look ps) : Fz look' ps := fun p m => k _ _ (F p m)
theorem Fz.app {look : Gh} {ps qs : List (Addr × Obj)} (F : Fz look ps) (F' : Fz look qs) : Fz look (ps ++ qs) := fun p m => (List.mem_append.mp m).elim (F p) (F' p)
theorem Fz.get {look : Gh} {ps : List (Addr × Obj)} {a : Addr} {o : Obj} (F : Fz look ps) (m : (a, o) ∈ ps) : look a = some o := F _ m
section
variable {w : World} {A : Around} {G : Gh} {L : Addr} {nm : List Str} {vs vs' : List (Option Value)} {σ σ' fr : List (Addr × Obj)} {h h0 : Heap} {s₀ : Shared} {tk : Nat} {env : Env}
/-- frozen for good; the bag is not among it -/
theorem Mem.freezeB {b : Addr} {ob : Obj} (D : Mem G L nm vs (fr ++ σ) h) (Γ : Gnd w G) (kg : ∀ a o, h0.get? a = some o → a ∉ [b] → G a = some o) (hb : (b, ob) ∈ σ) :
    ∃ G2, Le G G2 ∧ Gnd w G2 ∧ Mem G2 L nm vs σ h ∧ Fz (N0 h0 G2) fr ∧ ∀ a o, h0.get? a = some o → a ∉ [b] → G2 a = some o := by
  obtain ⟨G2, le, Γ2, D2, hf, kg2⟩ := D.freeze0 Γ kg (fun p hp e => by
    have nd := D.nd
    rw [List.map_append] at nd
    exact (List.nodup_append.mp nd).2.2 p.1 (List.mem_map_of_mem hp) b (List.mem_map.mpr ⟨_, hb, rfl⟩) (List.mem_singleton.mp e))
  exact ⟨G2, le, Γ2, D2, fun p hp => (hf p hp).1, kg2⟩
end
/-- some of σ, in a new order -/
inductive Sel : List (Addr × Obj) → List (Addr × Obj) → Prop
  | nil {σ} : Sel σ []
  | cons {p σ r σ'} : Pick p σ r → Sel r σ' → Sel σ (p :: σ')
theorem Sel.spec {σ σ' : List (Addr × Obj)} (s : Sel σ σ') : ∃ r, σ.Perm (σ' ++ r) := by
  induction s with
  | nil => exact ⟨_, List.Perm.refl _⟩
  | cons k _ ih =>
    obtain ⟨r, hr⟩ := ih
    exact ⟨r, k.perm.trans (List.Perm.cons _ hr)⟩
theorem Mem.sel {G : Gh} {L : Addr} {nm : List Str} {vs : List (Option Value)} {σ σ' : List (Addr × Obj)} {h : Heap} (D : Mem G L nm vs σ h) (s : Sel σ σ') : Mem G L nm vs σ' h := by
  obtain ⟨r, hr⟩ := s.spec
  exact (D.perm hr).sublist (List.sublist_append_left _ _)
local macro_rules | `(tactic| walk_at "m.sel") => `(tactic| first | with_reducible exact Sel.nil | (refine' Sel.cons ?pk ?sl; (case pk => walk_at "m.pick"); (case sl => walk_at "m.sel")))
theorem comp_name' {acc C : Addr} {y : Str} {py : Pos} {Q : Shared → Prop} {m : Str → Option Value} {w : World} {A : Around} {G : Gh} {nm : List Str} {vs vs' : List (Option Value)} {σ : List (Addr × Obj)} {h : Heap} {s₀ : Shared} {tk : Nat} {env : Env}
    (D : Mem G env.locals nm vs σ h) (n : h.Ns C m) (O : Off C G env.locals σ) (p : Put nm vs y (.ref acc) vs')
    (hQ : ∀ h' tk', Mem G env.locals nm vs' σ h' → Q (S s₀ h' tk')) (hk : env.scope.kind = .function := by rfl) (hx : env.kindOf y = some .local := by rfl) :
    compPost (MM w) A F0 (some (assign (.Name y py) env)) (fun _ s' => Q s') (.ref acc) C (.ok .next) (S s₀ h tk) := comp_name (Q := fun _ s' => Q s') D n O p hQ hk hx
theorem item_int {vs : List Value} {ns : List Int} (hi : IntsAre vs ns) {v : Int} (h0 : 0 ≤ v) (hl : v < (vs.length : Int)) : ∃ x t, vs[v.toNat]? = some (.int x t) := by
  have hlt : v.toNat < vs.length := by omega
  obtain ⟨x, t, e, _⟩ := hi.at v.toNat vs[v.toNat] (by simp [hlt])
  exact ⟨x, t, by simp [hlt, e]⟩
theorem two_at {a b : Str} {ta tb : Tok} {v : Int} (h0 : 0 ≤ v) (h2 : v < 2) : [Value.str a ta, .str b tb][v.toNat]? = some (.str (if v = 0 then a else b) (if v = 0 then ta else tb)) := by
  obtain rfl | rfl : v = 0 ∨ v = 1 := by omega
  all_goals rfl
/-- a row as data, wherever it lies so -/
def RowRd (look : Gh) (a : Addr) : Prop := ∃ d : PyData, d.canLay0 = true ∧ d.depth ≤ 4 ∧ ∀ h : Heap, Le look h.get? → Reads h (.ref a) d []
theorem RowRd.mono {look look' : Gh} {a : Addr} (k : Le look look') (r : RowRd look a) : RowRd look' a := let ⟨d, a, b, c⟩ := r; ⟨d, a, b, fun h hl => c h (k.trans hl)⟩
theorem rd_net {look : Gh} {a : Addr} {x : Str} {t u v y : Tok} {k b c : Int} {n : Nat} (hx : PyData.strOk x = true) (e : look a = some (tupOf #[.str x t, .int k u, .int b v, .int c y] n)) : RowRd look a := by
  refine ⟨.tuple [.str x, .int k, .int b, .int c], by simp [PyData.canLay0, PyData.canLayAll0, hx], by simp [PyData.depth, PyData.depthAll], fun h hl => ?_⟩
  exact .tuple (hl _ _ e) rfl rfl (.cons (as := []) (.str _ _) (.cons (as := []) (.int _ _) (.cons (as := []) (.int _ _) (.cons (as := []) (.int _ _) .nil))))
theorem rd_deep {look : Gh} {a i : Addr} {x : Str} {t u v : Tok} {k b : Int} {n m : Nat} {p q r s : Int} {tp tq tr ts : Tok} {more : List Value} (hx : PyData.strOk x = true) (hm : more = [] ∨ ∃ c t'', more = [.int c t''])
    (e : look a = some (tupOf ([Value.str x t, .int k u, .int b v, .ref i] ++ more).toArray n)) (e2 : look i = some (tupOf #[.int p tp, .int q tq, .int r tr, .int s ts] m)) : RowRd look a := by
  have sub : ∀ h : Heap, Le look h.get? → Reads h (.ref i) (.tuple [.int p, .int q, .int r, .int s]) [] := fun h hl =>
    .tuple (hl _ _ e2) rfl rfl (.cons (as := []) (.int _ _) (.cons (as := []) (.int _ _) (.cons (as := []) (.int _ _) (.cons (as := []) (.int _ _) .nil))))
  rcases hm with rfl | ⟨c, t'', rfl⟩
  · refine ⟨.tuple [.str x, .int k, .int b, .tuple [.int p, .int q, .int r, .int s]], by simp [PyData.canLay0, PyData.canLayAll0, hx], by simp [PyData.depth, PyData.depthAll], fun h hl => ?_⟩
    exact .tuple (hl _ _ e) rfl rfl (.cons (as := []) (.str _ _) (.cons (as := []) (.int _ _) (.cons (as := []) (.int _ _) (.cons (as := []) (sub h hl) .nil))))
  · refine ⟨.tuple [.str x, .int k, .int b, .tuple [.int p, .int q, .int r, .int s], .int c], by simp [PyData.canLay0, PyData.canLayAll0, hx], by simp [PyData.depth, PyData.depthAll], fun h hl => ?_⟩
    exact .tuple (hl _ _ e) rfl rfl (.cons (as := []) (.str _ _) (.cons (as := []) (.int _ _) (.cons (as := []) (.int _ _) (.cons (as := []) (sub h hl) (.cons (as := []) (.int _ _) .nil)))))
theorem RowOK.net {look : Gh} {a : Addr} {k : Nat} {x : Int} {t1 t2 t3 t4 : Tok} {n : Nat} (e : look a = some (tupOf #[.str (Str.ofString "net") t1, .int k t2, .int 0 t3, .int x t4] n)) : RowOK look a (k, [x]) :=
  ⟨_, t1, t2, 0, t3, _, [], n, e, .inl rfl, .inl ⟨rfl, x, t4, rfl, rfl⟩⟩
theorem IntTup.four {look : Gh} {i : Addr} {x y z u : Int} {t1 t2 t3 t4 : Tok} {n : Nat} (e : look i = some (tupOf #[.int x t1, .int y t2, .int z t3, .int u t4] n)) : IntTup look i [x, y, z, u] :=
  ⟨_, n, e, .cons _ _ (.cons _ _ (.cons _ _ (.cons _ _ .nil)))⟩
section
variable {w : World} {G : Gh} {L : Addr} {nm : List Str} {vs : List (Option Value)} {σ : List (Addr × Obj)} {h h0 : Heap}
theorem row_pick {a0 a1 a2 i1 i2 l b : Addr} {ob : Obj} {x y v : Int} {k : Nat} {t1 t2 t3 t4 t5 t6 t7 t8 t9 t10 t11 t12 t13 t14 t15 t16 t17 t18 t19 : Tok}
    (D : Mem G L nm vs ((l, listOf #[.ref a0, .ref a1, .ref a2] 0) :: (a2, tupOf #[.str (Str.ofString "flop") t1, .int k t2, .int 0 t3, .ref i2, .int 1 t4] 0) :: (i2, tupOf #[.int x t5, .int y t6, .int 0 t7, .int 1 t8] 0) ::
      (a1, tupOf #[.str (Str.ofString "latch") t9, .int k t10, .int 1 t11, .ref i1] 0) :: (i1, tupOf #[.int x t12, .int y t13, .int 0 t14, .int 0 t15] 0) :: (a0, tupOf #[.str (Str.ofString "net") t16, .int k t17, .int 0 t18, .int x t19] 0) :: σ) h)
    (Γ : Gnd w G) (kg : ∀ a o, h0.get? a = some o → a ∉ [b] → G a = some o) (hb : (b, ob) ∈ σ) (h0v : 0 ≤ v) (h3v : v < 3) :
    ∃ G2 ra ins, Le G G2 ∧ Gnd w G2 ∧ Mem G2 L nm vs ((l, listOf #[.ref a0, .ref a1, .ref a2] 0) :: σ) h ∧ (∀ a o, h0.get? a = some o → a ∉ [b] → G2 a = some o) ∧
      [Value.ref a0, .ref a1, .ref a2][v.toNat]? = some (.ref ra) ∧ RowOK (N0 h0 G2) ra (k, ins) ∧ ins.length ≤ 4 ∧ RowRd (N0 h0 G2) ra := by
  have D := D.perm (List.perm_middle (l₁ := [_, _, _, _, _])).symm
  obtain ⟨G2, le, Γ2, D, F, kg2⟩ := Mem.freezeB (b := b) (ob := ob) D Γ kg (.tail _ hb)
  have f2 := F.get (.head _)
  have fi2 := F.get (.tail _ (.head _))
  have f1 := F.get (.tail _ (.tail _ (.head _)))
  have fi1 := F.get (.tail _ (.tail _ (.tail _ (.head _))))
  have f0 := F.get (.tail _ (.tail _ (.tail _ (.tail _ (.head _)))))
  obtain rfl | rfl | rfl : v = 0 ∨ v = 1 ∨ v = 2 := by omega
  · exact ⟨G2, a0, [x], le, Γ2, D, kg2, rfl, RowOK.net f0, by simp, rd_net (by decide +kernel) f0⟩
  · exact ⟨G2, a1, [x, y, 0, 0], le, Γ2, D, kg2, rfl, ⟨_, t9, t10, 1, t11, _, [], 0, f1, .inl rfl, .inr ⟨by decide +kernel, i1, rfl, IntTup.four fi1⟩⟩, by simp, rd_deep (by decide +kernel) (.inl rfl) f1 fi1⟩
  · exact ⟨G2, a2, [x, y, 0, 1], le, Γ2, D, kg2, rfl, ⟨_, t1, t2, 0, t3, _, [.int 1 t4], 0, f2, .inr ⟨_, _, rfl⟩, .inr ⟨by decide +kernel, i2, rfl, IntTup.four fi2⟩⟩, by simp, rd_deep (by decide +kernel) (.inr ⟨_, _, rfl⟩) f2 fi2⟩
theorem drvOK_of {look : Gh} {ad : Addr} {o : Obj} {xs : List (List Int × Addr × Value)} {dl : List (Addr × Obj)} {roots : List (List Int)} (T : TD w ad o xs) (S : DrvS w (fun a ob => look a = some ob) xs dl roots) (F : Fz look ((ad, o) :: dl)) : DrvOK w look ad roots := by
  refine ⟨o, xs, F _ (.head _), T, S.2.1, fun i x rt hx hr => ?_⟩
  obtain ⟨p, rt', hp, _⟩ := S.at_ hx
  obtain ⟨⟨ok, a, b, c⟩, e, ys, n, e2, hi⟩ := S.2.2 i x p rt hx hp hr
  exact ⟨⟨ok, a, b, c⟩, p.1, e, ys, n, e2 ▸ F p (.tail _ (List.mem_of_getElem? hp)), hi⟩
end
/-! F1 -/
section
variable {w : World} {A : Around} {G : Gh} {L : Addr} {nm : List Str} {vs vs' : List (Option Value)} {σ σ' : List (Addr × Obj)} {h : Heap} {s₀ : Shared} {tk : Nat} {env : Env} {E : Value → Shared → Prop}
/-- a slice up to a written bound -/
theorem l_uptoG {value e : Expr} {p : Pos} {l : Addr} {xs : List Value} {o : Obj} {y : Int} {u : Tok} {a : Addr} {Q : Value → Shared → Prop} (D : Mem G L nm vs ((a, { cls := .type "slice", data := .fields #[.none, .int y u, .none] }) :: σ) h) (kn : Knows G σ l o) (hc : o.cls = .type "list") (hd : ∃ n, o.data = .seq xs.toArray n) (h0 : 0 ≤ y) (hz : xs.length ≤ 2 ^ 20)
    (hQ : ∀ r h' tk', Mem G L nm vs ((r, listOf (xs.take y.toNat).toArray 0) :: σ) h' → Q (.ref r) (S s₀ h' tk')) (hv : ∀ r, letTemporaryGo value (.ref l) r = pure () := by intro _; rfl) :
    wpAny (MM w) A (subscriptTail value (.Slice none (some e) none p) (.ref l) (.ref a)) Q E (S s₀ h tk) := by
  have D' := D.tail
  have hl : (S s₀ h tk).heap.IsList l xs.toArray := ⟨_, D'.knows kn, hc, hd⟩
  refine subscriptTail_ops hl.typeIs list_getitem_lookup (wpAny_getItem_list_slice (lo := none) (hi := some y) hl ⟨_, D.get (.head _), rfl, rfl⟩ .none (.int _ _) .none (by simp) ?_ (by rw [List.size_toArray, sizeLine_eq]; omega)) rfl hv
  have e : slicePick xs.toArray none (some y) none = (xs.take y.toNat).toArray := by
    obtain ⟨k, rfl⟩ : ∃ k : Nat, y = (k : Int) := ⟨y.toNat, by omega⟩
    rw [slicePick_upto' xs.toArray k]
    simp
  rw [e]
  exact hQ _ _ _ (D'.push _)
end
theorem c_marbles {w : World} {A : Around} {G : Gh} {h : Heap} {s₀ : Shared} {tk : Nat} {sc : Addr} {R : Result → Shared → Prop} {xs : List Value} {ns : List Int} {os : Obj}
    (HA : Room A 210) (hfr : ∃ l, A.frames = some l) (Γ : Gnd w G) (kp : ∀ b o, G b = some o → h.get? b = some o) (hs : h.get? sc = some os) (hsc : os.cls = .type "list") (hsd : ∃ n, os.data = .seq xs.toArray n) (hi : IntsAre xs ns) (hz : xs.length ≤ 64)
    (hR : ∀ h' tk' l xs' ns' n', Keep [] h h' → h.get? l = none → h'.get? l = some (listOf xs'.toArray n') → IntsAre xs' ns' → xs'.length ≤ 90 → R (.ok (.ret (.ref l))) (S s₀ h' tk')) :
    codeAny (MM w) A (.call (.ref 301) ⟨[.ref sc], []⟩) R (S s₀ h tk) := by
  refine enter (f := 301) (W := []) (nm := [Str.ofString "script", Str.ofString "bag", Str.ofString "one", Str.ofString "left", Str.ofString "hop"]) (vs := [some (.ref sc), none, none, none, none]) (binds := [(Str.ofString "script", .ref sc)]) HA Γ kp rfl rfl (BindsTo.of_eq rfl) rfl rfl (by decide +kernel) ⟨rfl, trivial⟩ ?_ ?_ ?_
  · intro p hp; cases hp
  · simp
  intro A' G' L h₁ tk₁ HA' Γ' kg D hA'
  obtain ⟨l₀, hfr⟩ := hfr
  have hA' := hA' _ hfr
  have gs : G' sc = some os := kg _ _ hs (by simp)
  have room : ∀ h tk, (∀ b o, G' b = some o → h.get? b = some o) → PylongRoom (MM w) A' (S s₀ h tk) := fun h tk k =>
    PylongRoom.of (Γ'.nolimit k) (by have := HA'.depth; show A'.depth + 100 < 1000; omega) (SeerAt.of (Γ'.seer _ k) rfl hA' rfl rfl rfl rfl)
  repeat walk_at "m.step"
  refine' l_uptoG (xs := xs) ?D ?k hsc hsd ?z ?len ?_ ?hv
  case D => walk_at "m.D"
  case k => exact .inl gs
  case z => decide
  case len => omega
  case hv => intro _; rfl
  intro r h₂ tk₂ D₂
  refine r_iter_list (nm := [Str.ofString "script", Str.ofString "bag", Str.ofString "one", Str.ofString "left", Str.ofString "hop"]) HA'.hd D₂ (fun i G vs σ => G' = G ∧ ∃ bag bs bns nb o3 o4 o5, vs = [some (.ref sc), some (.ref bag), o3, o4, o5] ∧ σ = [(r, listOf (List.take (Int.toNat 40) xs).toArray 0), (bag, listOf bs.toArray nb)] ∧ IntsAre bs bns ∧ bs.length ≤ 9 * i)
    (fun i G vs σ j => by obtain ⟨_, _, _, _, _, _, _, _, _, rfl, _⟩ := j; exact .inr (.head _)) ⟨rfl, _, [], [], 0, none, none, none, rfl, rfl, .nil, by simp⟩ ?_ ?_
  · rintro i _ _ _ h tk v I oI hv ⟨rfl, bag, bs, bns, nb, o3, o4, o5, rfl, rfl, hbs, hbl⟩ D
    have hil : i < 40 := by
      have := (List.getElem?_eq_some_iff.mp hv).1
      simp at this; omega
    obtain ⟨one, t1, rfl, _⟩ := (hi.take _).at i v hv
    refine wpAny_assign_Name ?_
    walk_at "m.step"
    rename_i h2 tk2 D2
    refine wpAny_execs_cons (wpAny_Assign_Name (wpAny_mono (Q := fun v s' => ∃ l t tk', v = .int l t ∧ s' = S s₀ h2 tk') ?_ ?_ fun _ _ z => z) rfl)
    · repeat walk_at "m.step"
      refine ite_b (fun _ => ?_) (fun _ => ?_)
      all_goals (repeat walk_at "m.step")
      all_goals exact ⟨_, _, _, rfl, rfl⟩
    rintro _ _ ⟨left, t, tk3, rfl, rfl⟩
    repeat walk_at "m.step"
    rename_i D3 _ _
    refine r_iter_range (n := 9) (nm := [Str.ofString "script", Str.ofString "bag", Str.ofString "one", Str.ofString "left", Str.ofString "hop"]) (by decide) HA'.hd D3 (fun k G vs σ => G' = G ∧ ∃ bag bs bns nb o3 left t o5, vs = [some (.ref sc), some (.ref bag), o3, some (.int left t), o5] ∧ σ = [(I, oI), (r, listOf (List.take (Int.toNat 40) xs).toArray 0), (bag, listOf bs.toArray nb)] ∧ IntsAre bs bns ∧ bs.length ≤ 9 * i + k)
      ⟨rfl, bag, bs, bns, nb, _, left, _, _, rfl, rfl, hbs, hbl⟩ ?_ ?_
    · rintro k _ _ _ h tk t I2 oI2 hk ⟨rfl, bag, bs, bns, nb, o3, left, t', o5, rfl, rfl, hbs, hbl⟩ D
      refine wpAny_assign_Name ?_
      repeat walk_at "m.step"
      refine i_mod (by decide) ?_
      intro tm tkm
      have hz : bs.length ≤ 2 ^ 20 := by omega
      repeat walk_at "m.step"
      rename_i Dd _ _
      refine floordiv_int (by decide) ?_ (.inr (room _ _ Dd.keep))
      refine sto Dd (by walk_at "m.put") (fun h4 tk4 D4 => ?_)
      repeat walk_at "m.step"
      have ha : IntsAre (bs ++ [Value.int (left.fmod 103) tm]) (bns ++ [left.fmod 103]) := IntsAre.append hbs (.cons _ _ .nil)
      refine ite_b (fun _ => ?_) (fun _ => ?_)
      · repeat walk_at "m.step"
        refine wpAny_execs_nil ?_
        have D5 := D4.tail
        exact Turn.next (own := [(I, oI)]) D5 ⟨rfl, bag, _, _, _, _, _, _, rfl, rfl, ha, by simp; omega⟩
      · repeat walk_at "m.step"
        exact Turn.next (own := [(I2, oI2)]) D4 ⟨rfl, bag, _, _, _, _, _, _, _, rfl, rfl, ha, by simp; omega⟩
    · rintro _ _ _ h tk ⟨rfl, bag, bs, bns, nb, o3, left, t', o5, rfl, rfl, hbs, hbl⟩ D
      repeat walk_at "m.step"
      exact Turn.next (own := [(I, oI)]) D ⟨rfl, bag, bs, bns, nb, _, _, _, rfl, rfl, hbs, by omega⟩
  · rintro _ _ _ h tk ⟨rfl, bag, bs, bns, nb, o3, o4, o5, rfl, rfl, hbs, hbl⟩ D
    have D := D.tail
    repeat walk_at "m.step"
    refine' l_upto (l := bag) (xs := bs) ?D ?k ?z ?len ?_ ?hv
    case D => walk_at "m.D"
    case k => walk_at "m.kn"
    case z => decide
    case len => simp at hbl; omega
    case hv => intro _; rfl
    intro l h₂ tk₂ D₂
    exact hR _ _ l _ _ 0 (D₂.kept kg) (D₂.newer kg (.head _) (by simp)) (D₂.get (.head _)) (hbs.take _) (by simp; omega)
/-! F2 -/
local macro_rules | `(tactic| walk_at "m.step") => `(tactic| ((with_reducible show wpAny _ _ (loadName _ _) _ _ _); first
  | (refine' ldcn ?D ?c ?kn ?v ?_ ?k ?x; (case D => walk_at "m.D"); (case k => exact rfl); (case x => exact rfl); (case c => exact rfl); (case kn => walk_at "m.kn"); (case v => first | exact rfl | assumption))
  | (refine' ldn ?D ?a ?_ ?k ?x; (case D => walk_at "m.D"); (case k => exact rfl); (case x => exact rfl); (case a => walk_at "m.at"))))
abbrev nmB : List Str := [Str.ofString "design", Str.ofString "netlist", Str.ofString "wires", Str.ofString "key", Str.ofString "sort", Str.ofString "signal", Str.ofString "step", Str.ofString "ins", Str.ofString "many", Str.ofString "rows", Str.ofString "one", Str.ofString "two"]

theorem stored_length_le' {kvs : List (Str × Value)} {k : Str} {v : Value} {n : Nat} (h : kvs.length ≤ n) : (stored kvs k v).length ≤ n + 1 := Nat.le_trans (stored_length_le _ _ _) (Nat.succ_le_succ h)
theorem five_at {a b c d e : Str} {ta tb tc td te : Tok} {v : Int} (h0 : 0 ≤ v) (h5 : v < 5) : [Value.str a ta, .str b tb, .str c tc, .str d td, .str e te][v.toNat]? = some (.str (if v = 0 then a else if v = 1 then b else if v = 2 then c else if v = 3 then d else e) (if v = 0 then ta else if v = 1 then tb else if v = 2 then tc else if v = 3 then td else te)) := by
  obtain rfl | rfl | rfl | rfl | rfl : v = 0 ∨ v = 1 ∨ v = 2 ∨ v = 3 ∨ v = 4 := by omega
  all_goals rfl
inductive WBu1 (G1 : Gh) (w : World) (h : Heap) (b : Addr) (aD : Addr) (aN : Addr) (aW : Addr) (al : Addr) (bp : Addr) (dn : Addr) (an : Addr) (lN : Addr) (L : Addr) (ac : Addr) (ad : Addr) (oad : Obj) (ap : Addr) (i : Nat) (g : Gh) (vs : List (Option Value)) (σ : List (Addr × Obj)) : Prop
  | mk (h1 : Le G1 g) (h2 : Gnd w g) (h3 : (∀ a o, h.get? a = some o → a ∉ [b] → g a = some o)) (ss : List Addr) (sg : List Bool) (nt : List (List Int)) (nkvs : List (Int × Value)) (bkvs : List (Str × Value)) (nv : List Value) (nn : List Int) (c : Int) (n1 n2 : Nat) (obp oan on oN ob : Obj) (j1 j2 j3 j4 j5 j6 j7 j8 j9 : Option Value) (h4 : vs = [some (.ref aD), some (.ref aN), some (.ref aW), j1, j2, j3, j4, j5, j6, j7, j8, j9]) (h5 : σ = [(al, listOf (ss.map Value.ref).toArray n1), (bp, obp), (dn, on), (an, oan), (lN, listOf nv.toArray n2), (L + 2, oN), (b, ob), (ac, listOf #[] 0), (ad, oad), (ap, listOf #[] 0)]) (h6 : St1 (N0 h g) i c ss sg nt nkvs) (h7 : SD w bp obp bkvs) (h8 : bkvs.length ≤ i) (h9 : NO on c ac) (h10 : ID w an oan nkvs) (h11 : IntsAre nv nn) (h12 : 2 ≤ nv.length) (h13 : nv.length ≤ 2 + 4 * i) (h14 : oN.data = .cell (some (.ref lN))) (h15 : BagO ob) : WBu1 G1 w h b aD aN aW al bp dn an lN L ac ad oad ap i g vs σ
inductive WBu2 (G2 : Gh) (w : World) (h : Heap) (b : Addr) (aD : Addr) (aN : Addr) (aW : Addr) (dn : Addr) (ac : Addr) (lN : Addr) (ad : Addr) (oad : Obj) (ap : Addr) (m : Nat) (i : Nat) (g : Gh) (vs : List (Option Value)) (σ : List (Addr × Obj)) : Prop
  | mk (h1 : Le G2 g) (h2 : Gnd w g) (h3 : (∀ a o, h.get? a = some o → a ∉ [b] → g a = some o)) (cs : List Addr) (ce : List (Int × List Int)) (nv : List Value) (nn : List Int) (c : Int) (n1 n2 : Nat) (on ob : Obj) (j1 j2 j3 j4 j5 j6 j7 j8 j9 : Option Value) (h4 : vs = [some (.ref aD), some (.ref aN), some (.ref aW), j1, j2, j3, j4, j5, j6, j7, j8, j9]) (h5 : σ = [(dn, on), (ac, listOf (cs.map Value.ref).toArray n1), (lN, listOf nv.toArray n2), (b, ob), (ad, oad), (ap, listOf #[] 0)]) (h6 : St2 (N0 h g) i c cs ce) (h7 : NO on c ac) (h8 : IntsAre nv nn) (h9 : 2 ≤ nv.length) (h10 : nv.length ≤ 2 + 4 * m + i) (h11 : BagO ob) : WBu2 G2 w h b aD aN aW dn ac lN ad oad ap m i g vs σ
inductive WBu3 (G3 : Gh) (w : World) (h : Heap) (b : Addr) (aD : Addr) (aN : Addr) (aW : Addr) (m : Nat) (tm : Tok) (ad : Addr) (ap : Addr) (i : Nat) (g : Gh) (vs : List (Option Value)) (σ : List (Addr × Obj)) : Prop
  | mk (h1 : Le G3 g) (h2 : Gnd w g) (h3 : (∀ a o, h.get? a = some o → a ∉ [b] → g a = some o)) (xs : List (List Int × Addr × Value)) (dl : List (Addr × Obj)) (roots : List (List Int)) (o ob : Obj) (j1 j2 j3 j4 j5 j7 j8 j9 : Option Value) (h4 : vs = [some (.ref aD), some (.ref aN), some (.ref aW), j1, j2, j3, j4, j5, some (.int (m : Nat) tm), j7, j8, j9]) (h5 : σ = (ad, o) :: (dl ++ [(b, ob), (ap, listOf #[] 0)])) (h6 : TD w ad o xs) (h7 : DrvS w (fun a ob => N0 h g a = some ob) xs dl roots) (h8 : roots.length ≤ i) (h9 : (∀ r ∈ roots, r.length ≤ i)) (h10 : BagO ob) : WBu3 G3 w h b aD aN aW m tm ad ap i g vs σ
inductive WBu4 (G4 : Gh) (w : World) (h : Heap) (b : Addr) (aD : Addr) (aN : Addr) (aW : Addr) (m : Nat) (tm : Tok) (ap : Addr) (i : Nat) (g : Gh) (vs : List (Option Value)) (σ : List (Addr × Obj)) : Prop
  | mk (h1 : Le G4 g) (h2 : Gnd w g) (h3 : (∀ a o, h.get? a = some o → a ∉ [b] → g a = some o)) (ps : List Addr) (po : List Nat) (np : Nat) (ob : Obj) (j1 j2 j3 j4 j5 j7 j8 j9 : Option Value) (h4 : vs = [some (.ref aD), some (.ref aN), some (.ref aW), j1, j2, j3, j4, j5, some (.int (m : Nat) tm), j7, j8, j9]) (h5 : σ = [(b, ob), (ap, listOf (ps.map Value.ref).toArray np)]) (h6 : All2 (PortOK (N0 h g)) ps po) (h7 : po.length = i) (h8 : (∀ k ∈ po, k < m)) (h9 : BagO ob) : WBu4 G4 w h b aD aN aW m tm ap i g vs σ
inductive WBu5 (G5 : Gh) (w : World) (h : Heap) (b : Addr) (aD : Addr) (aN : Addr) (aW : Addr) (m : Nat) (tm : Tok) (lR : Addr) (i : Nat) (g : Gh) (vs : List (Option Value)) (σ : List (Addr × Obj)) : Prop
  | mk (h1 : Le G5 g) (h2 : Gnd w g) (h3 : (∀ a o, h.get? a = some o → a ∉ [b] → g a = some o)) (rs : List Addr) (ro : List (Nat × List Int)) (nr : Nat) (ob : Obj) (j1 j2 j3 j4 j5 j8 j9 : Option Value) (h4 : vs = [some (.ref aD), some (.ref aN), some (.ref aW), j1, j2, j3, j4, j5, some (.int (m : Nat) tm), some (.ref lR), j8, j9]) (h5 : σ = [(lR, listOf (rs.map Value.ref).toArray nr), (b, ob)]) (h6 : All2 (RowOK (N0 h g)) rs ro) (h7 : ro.length = i) (h8 : (∀ r ∈ ro, r.1 < m)) (h9 : (∀ r ∈ ro, r.2.length ≤ 4)) (h10 : (∀ a ∈ rs, RowRd (N0 h g) a)) (h11 : BagO ob) : WBu5 G5 w h b aD aN aW m tm lR i g vs σ
theorem c_built {w : World} {A : Around} {G : Gh} {h : Heap} {s₀ : Shared} {tk : Nat} {b : Addr} {ob : Obj} {R : Result → Shared → Prop}
    (HA : Room A 60) (Γ : Gnd w G) (kp : ∀ b o, G b = some o → h.get? b = some o) (hb : h.get? b = some ob) (gb : G b = none) (hB : BagO ob)
    (hR : ∀ h' tk' g t aD aN aW aR d n rs nr, Keep [b] h h' → (∀ a o, g a = some o → h'.get? a = some o ∧ h.get? a = none) → g t = some (tupOf #[.ref aD, .ref aN, .ref aW, .ref aR] n) → Laid w g d aD aN aW aR → Good d →
      g aR = some (listOf (rs.map Value.ref).toArray nr) → All2 (RowOK g) rs d.rows → (∀ a ∈ rs, RowRd g a) → R (.ok (.ret (.ref t))) (S s₀ h' tk')) :
    codeAny (MM w) A (.call (.ref 313) ⟨[.ref b], []⟩) R (S s₀ h tk) := by
  refine enterC (f := 313) (W := [(b, ob)]) (nm := nmB) (vs := [none, none, none, none, none, none, none, none, none, none, none, none]) (binds := [(Str.ofString "bag", .ref b)]) HA Γ kp rfl rfl (BindsTo.of_eq rfl) ?_ ?_ (by decide +kernel) (fun L' => trivial) (fun p hp => by rw [List.mem_singleton.mp hp]; exact ⟨hb, gb⟩) (by simp) ?_
  · intro n y hy
    simp only [List.mem_cons, List.not_mem_nil, or_false] at hy
    rw [hy]
    exact .inr ⟨rfl, rfl⟩
  · decide +kernel
  intro A' G' L h₁ tk₁ cells HA' Γ' kg hcl _ D
  obtain ⟨oN, oB, rfl, hoN, hoB⟩ := CellsAre.two (n := Str.ofString "nets") (n' := Str.ofString "bag") (c := L + 2) (c' := L + 1) hcl
  have D : Mem G' L nmB _ [(L + 2, oN), (L + 1, oB), (b, ob)] h₁ := D
  have hoB : oB.data = .cell (some (.ref b)) := hoB
  have hh := HA'.hd
  repeat walk_at "m.step"
  refine w_Design (HA'.le (by omega)) Γ' (by walk_at "m.D") fun h2 tk2 aD dd od al ap bp obp D2 fd1 fd2 fd3 fd4 hSD => ?_
  repeat walk_at "m.step"
  refine w_Netlist (HA'.le (by omega)) Γ' (by walk_at "m.D") fun h3 tk3 aN dn on ac D3 hNO => ?_
  repeat walk_at "m.step"
  refine w_Wires (HA'.le (by omega)) Γ' (by walk_at "m.D") fun h4 tk4 aW dw ow an ad oan oad D4 fw1 fw2 fw3 hID hTD => ?_
  repeat walk_at "m.step"
  rename_i ta tka tb tkb lN h5 D5
  have D5 : Mem G' L nmB _ [(lN, listOf #[.int 0 ta, .int 1 tb] 0), (an, oan), (ad, oad), (dw, ow), (aW, instObj 52 dw), (ac, listOf #[] 0), (dn, on), (aN, instObj 290 dn), (al, listOf #[] 0), (ap, listOf #[] 0), (bp, obp), (dd, od), (aD, instObj 206 dd), (L + 2, oN), (L + 1, oB), (b, ob)] h5 := D5
  refine stc D5 rfl (by walk_at "m.mem") hoN (fun h6 tk6 oN2 hoN2 H6 => ?_) rfl rfl
  have D6 := H6 _ (by walk_at "m.rep")
  have D7 := ((((((((((((((((D6.pick (p := (ap, listOf #[] 0)) (by walk_at "m.pick")).pick (p := (ad, oad)) (by walk_at "m.pick")).pick (p := (ac, listOf #[] 0)) (by walk_at "m.pick")).pick (p := (b, ob)) (by walk_at "m.pick")).pick (p := (L + 2, oN2)) (by walk_at "m.pick")).pick (p := (lN, listOf #[.int 0 ta, .int 1 tb] 0)) (by walk_at "m.pick")).pick (p := (an, oan)) (by walk_at "m.pick")).pick (p := (dn, on)) (by walk_at "m.pick")).pick (p := (bp, obp)) (by walk_at "m.pick")).pick (p := (al, listOf #[] 0)) (by walk_at "m.pick")).pick (p := (L + 1, oB)) (by walk_at "m.pick")).pick (p := (aD, instObj 206 dd)) (by walk_at "m.pick")).pick (p := (dd, od)) (by walk_at "m.pick")).pick (p := (aN, instObj 290 dn)) (by walk_at "m.pick")).pick (p := (aW, instObj 52 dw)) (by walk_at "m.pick")).pick (p := (dw, ow)) (by walk_at "m.pick"))
  clear D D2 D3 D4 D5 H6 D6 hoN
  obtain ⟨G1, le1, Γ1, D8, F0, kg1⟩ := Mem.freezeB (fr := [(dw, ow), (aW, instObj 52 dw), (aN, instObj 290 dn), (dd, od), (aD, instObj 206 dd), (L + 1, oB)]) (b := b) (ob := ob) D7 Γ' kg (by walk_at "m.mem")
  have gdw : G1 dw = some ow := N0.le _ _ (F0.get (.head _))
  have gaW : G1 aW = some (instObj 52 dw) := N0.le _ _ (F0.get (.tail _ (.head _)))
  have gaN : G1 aN = some (instObj 290 dn) := N0.le _ _ (F0.get (.tail _ (.tail _ (.head _))))
  have gdd : G1 dd = some od := N0.le _ _ (F0.get (.tail _ (.tail _ (.tail _ (.head _)))))
  have gaD : G1 aD = some (instObj 206 dd) := N0.le _ _ (F0.get (.tail _ (.tail _ (.tail _ (.tail _ (.head _))))))
  have gcB : G1 (L + 1) = some oB := N0.le _ _ (F0.get (.tail _ (.tail _ (.tail _ (.tail _ (.tail _ (.head _)))))))
  repeat walk_at "m.step"
  refine w_marble (HA'.le (by omega)) Γ1 (by walk_at "m.D") (by walk_at "m.mem") hB (by omega) fun h9 tk9 t9 ob1 v1 hB1 H9 hv0 hv7 => ?_
  have D9 := H9 _ (by walk_at "m.rep")
  repeat walk_at "m.step"
  obtain ⟨m, hm1, hm7, hme⟩ : ∃ m : Nat, 1 ≤ m ∧ m ≤ 7 ∧ 1 + v1 = (m : Int) := ⟨(1 + v1).toNat, by omega, by omega, by omega⟩
  rw [hme]
  -- the signals
  refine r_iter_rangeP (n := m) (nm := nmB) (by omega) hh D9
    (WBu1 G1 w h b aD aN aW al bp dn an lN L ac ad oad ap)
    ⟨fun _ _ e => e, Γ1, kg1, [], [], [], [], [], [.int 0 ta, .int 1 tb], [0, 1], 2, 0, 0, obp, oan, on, oN2, ob1, _, _, _, _, _, _, _, _, _, rfl, rfl, .nil, hSD, Nat.le_refl _, hNO, hID, (.cons _ _ (.cons _ _ .nil)), (by simp), (by simp), hoN2, hB1⟩ ?_ ?_
  · rintro R' i g _ _ hh2 tk ti I oI hi ⟨hle, Γg, kgg, ss, sg, nt, nkvs, bkvs, nv, nn, c, n1, n2, obp, oan, on, oN, ob, j1, j2, j3, j4, j5, j6, j7, j8, j9, rfl, rfl, hSt, hSD, hbk, hNO, hID, hnv, hn2, hnl, hoN, hB⟩ D
    have gdw := hle _ _ gdw
    have gaW := hle _ _ gaW
    have gaN := hle _ _ gaN
    have gdd := hle _ _ gdd
    have gaD := hle _ _ gaD
    have gcB := hle _ _ gcB
    repeat walk_at "m.step"
    refine w_marble (HA'.le (by omega)) Γg (by walk_at "m.D") (by walk_at "m.mem") hB (by omega) fun h9 tk9 t9 ob1 v1 hB1 H9 hv0 hv7 => ?_
    walk_at "m.up"
    repeat walk_at "m.step"
    have hsl : ss.length = i := hSt.sigs.1.trans hSt.ls
    refine s_int (k := i) (by omega) fun xk tx tkx hxk => ?_
    repeat walk_at "m.step"
    refine s_add (by have : (Str.ofString "top.s").length = 5 := rfl; omega) fun tp tkp => ?_
    repeat walk_at "m.step"
    refine l_item (by walk_at "m.D") (.inr (.head _)) hv0 (by omega) (five_at hv0 hv7) ?_ (by with_unfolding_all rfl)
    repeat walk_at "m.step"
    rename Mem _ _ _ _ _ _ => Dk
    have Dk := (Dk.pick (p := (bp, obp)) (by walk_at "m.pick")).pick (p := (al, listOf (ss.map Value.ref).toArray n1)) (by walk_at "m.pick")
    refine w_add_signal (HA'.le (by omega)) Γg Dk gaD gdd fd1 fd3 hSD (by rw [List.length_map]; omega) (by omega) fun h10 tk10 sx sd so obp2 n3 t10 D10 hFS hSD2 => ?_
    dsimp only [List.cons_append, List.nil_append] at D10
    have D10 := (((((((((((((D10.pick (p := (ap, listOf #[] 0)) (by walk_at "m.pick")).pick (p := (ad, oad)) (by walk_at "m.pick")).pick (p := (ac, listOf #[] 0)) (by walk_at "m.pick")).pick (p := (b, ob1)) (by walk_at "m.pick")).pick (p := (L + 2, oN)) (by walk_at "m.pick")).pick (p := (lN, listOf nv.toArray n2)) (by walk_at "m.pick")).pick (p := (an, oan)) (by walk_at "m.pick")).pick (p := (dn, on)) (by walk_at "m.pick")).pick (p := (bp, obp2)) (by walk_at "m.pick")).pick (p := (al, listOf (ss.map Value.ref ++ [Value.ref sx]).toArray n3)) (by walk_at "m.pick")).pick (p := (sd, so)) (by walk_at "m.pick")).pick (p := (sx, instObj 143 sd)) (by walk_at "m.pick")).pick (p := (I, oI)) (by walk_at "m.pick"))
    have D10 := Mem.sublist (σ' := [(I, oI), (sx, instObj 143 sd), (sd, so), (al, listOf (ss.map Value.ref ++ [Value.ref sx]).toArray n3), (bp, obp2), (dn, on), (an, oan), (lN, listOf nv.toArray n2), (L + 2, oN), (b, ob1), (ac, listOf #[] 0), (ad, oad), (ap, listOf #[] 0)]) D10 (List.sublist_append_left [(I, oI), (sx, instObj 143 sd), (sd, so), (al, listOf (ss.map Value.ref ++ [Value.ref sx]).toArray n3), (bp, obp2), (dn, on), (an, oan), (lN, listOf nv.toArray n2), (L + 2, oN), (b, ob1), (ac, listOf #[] 0), (ad, oad), (ap, listOf #[] 0)] [_])
    refine sto D10 (by walk_at "m.put") (fun h11 tk11 D11 => ?_) rfl rfl
    show wpAny _ _ (execs _ _) _ _ _
    refine wpAny_execs_cons (wpAny_mono (Q := fun f s' => f = Flow.next ∧ ∃ (so' : Obj) (fv : Value) (h : Heap) (tk : Nat), s' = S s₀ h tk ∧
      Mem g L nmB [some (.ref aD), some (.ref aN), some (.ref aW), some (.int (i : Nat) ti), some (.int v1 t9), some (.ref sx), j4, j5, j6, j7, j8, j9] [(I, oI), (sx, instObj 143 sd), (sd, so'), (al, listOf (ss.map Value.ref ++ [Value.ref sx]).toArray n3), (bp, obp2), (dn, on), (an, oan), (lN, listOf nv.toArray n2), (L + 2, oN), (b, ob1), (ac, listOf #[] 0), (ad, oad), (ap, listOf #[] 0)] h ∧
      Fld so' "key" (some (.int (i : Nat) t10)) ∧ (∃ kd tkd, Fld so' "kind" (some (.str kd tkd))) ∧ Fld so' "first" (some fv) ∧ Fld so' "is_memory" none ∧ (fv = .none ∨ ∃ i t, fv = .int i t)) ?_ ?_ fun _ _ z => z)
    · repeat walk_at "m.step"
      refine ite_b (fun e => ?_) (fun e => ?_)
      · repeat walk_at "m.step"
        refine Assign_Tuple ?_ rfl rfl
        repeat walk_at "m.step"
        rename Mem _ _ _ _ _ _ => D12
        refine r_untuple (items := [_, _]) hh D12 (.inr (.head _)) rfl rfl fun h13 D13 => ?_
        repeat walk_at "m.step"
        refine kas_attr ?_
        repeat walk_at "m.step"
        refine kas_attr ?_
        repeat walk_at "m.step"
        rename Mem _ _ _ _ _ _ => D14
        rename FD _ _ _ => hFS2
        rw [List.length_map, hsl] at hFS2
        exact ⟨rfl, _, _, _, _, rfl, D14.tail, hFS2.fld (by walk_at "m.ato"), ⟨_, _, hFS2.fld (by walk_at "m.ato")⟩, hFS2.fld (by walk_at "m.ato"), hFS2.fld (by walk_at "m.ato"), .inr ⟨_, _, rfl⟩⟩
      · repeat walk_at "m.step"
        rename Mem _ _ _ _ _ _ => D12
        rw [List.length_map, hsl] at hFS
        exact ⟨rfl, so, .none, _, _, rfl, D12, hFS.fld (by walk_at "m.ato"), ⟨_, _, hFS.fld (by walk_at "m.ato")⟩, hFS.fld (by walk_at "m.ato"), hFS.fld (by walk_at "m.ato"), .inl rfl⟩
    rintro _ _ ⟨rfl, so', fv, hh3, tk12, rfl, D12, hf1, ⟨kd, tkd, hf2⟩, hf3, hf4, hfv⟩
    have hm2 := hNO.meth2
    repeat walk_at "m.step"
    refine ite_b (fun e => ?_) (fun e => ?_)
    all_goals
      clear e
      repeat walk_at "m.step"
      rename Mem _ _ _ _ _ _ => D13
      have D13 := D13.pick (p := (dn, on)) (by walk_at "m.pick")
      first
        | refine w_new_nets (k := 4) (HA'.le (by omega)) Γg D13 gaN hNO (by decide) fun h14 tk14 on2 l14 ys14 n14 D14 hNO2 hys14 => ?_
        | refine w_new_nets (k := 2) (HA'.le (by omega)) Γg D13 gaN hNO (by decide) fun h14 tk14 on2 l14 ys14 n14 D14 hNO2 hys14 => ?_
      repeat walk_at "m.step"
      have hnk := hSt.nk
      refine id_set (by walk_at "m.D") (by walk_at "m.mem") hID (by omega) fun h15 tk15 oan2 hID2 H15 => ?_
      walk_at "m.up"
      have hvi : valueAt (stored nkvs (i : Int) (.ref l14)) (i : Int) = some (.ref l14) := by rw [valueAt_stored, if_pos rfl]
      repeat walk_at "m.step"
      refine id_item (by walk_at "m.D") (.inr (by walk_at "m.mem")) hID2 hvi (fun tk16 => ?_) (by with_unfolding_all rfl)
      have hy14 := hys14.length
      rw [iota_len] at hy14
      refine l_inplace (by walk_at "m.D") (by walk_at "m.mem") (.inr (by walk_at "m.mem")) (by omega) fun h17 n17 H17 => ?_
      walk_at "m.up"
      refine stc (by walk_at "m.D") rfl (by walk_at "m.mem") hoN (fun h18 tk18 oN3 hoN3 H18 => ?_) rfl rfl
      walk_at "m.up"
      repeat walk_at "m.step"
      rename Mem _ _ _ _ _ _ => D19
      rw [show ss.map Value.ref ++ [Value.ref sx] = (ss ++ [sx]).map Value.ref by simp] at D19
      have D19 := ((((((((((((((D19.pick (p := (ap, listOf #[] 0)) (by walk_at "m.pick")).pick (p := (ad, oad)) (by walk_at "m.pick")).pick (p := (ac, listOf #[] 0)) (by walk_at "m.pick")).pick (p := (b, ob1)) (by walk_at "m.pick")).pick (p := (L + 1 + 1, oN3)) (by walk_at "m.pick")).pick (p := (lN, listOf (nv ++ ys14).toArray n17)) (by walk_at "m.pick")).pick (p := (an, oan2)) (by walk_at "m.pick")).pick (p := (dn, on2)) (by walk_at "m.pick")).pick (p := (bp, obp2)) (by walk_at "m.pick")).pick (p := (al, listOf ((ss ++ [sx]).map Value.ref).toArray n3)) (by walk_at "m.pick")).pick (p := (I, oI)) (by walk_at "m.pick")).pick (p := (sd, so')) (by walk_at "m.pick")).pick (p := (sx, instObj 143 sd)) (by walk_at "m.pick")).pick (p := (l14, listOf ys14.toArray n14)) (by walk_at "m.pick"))
      obtain ⟨g2, le2, Γ2, D20, hfr2, kg2⟩ := Mem.freezeB (fr := [(l14, listOf ys14.toArray n14), (sx, instObj 143 sd), (sd, so')]) (b := b) (ob := ob1) D19 Γg kgg (by walk_at "m.mem")
      exact Turn.next (own := [(I, oI)]) D20 ⟨hle.trans le2, Γ2, kg2, ss ++ [sx], sg ++ [kd == kInteger && fv == .none], _, _, _, nv ++ ys14, _, _, n3, n17, obp2, oan2, on2, oN3, ob1, _, _, _, _, _, _, _, _, _, rfl, rfl,
        (hSt.mono (N0.mono le2)).more ⟨sd, so', kd, tkd, t10, fv, hfr2 _ (.tail _ (.head _)), hfr2 _ (.tail _ (.tail _ (.head _))), hf1, hf2, hf3, hf4, hfv, rfl⟩ ⟨ys14, n14, hfr2 _ (.head _), hys14⟩ (by decide), hSD2, stored_length_le' hbk, hNO2, hID2, hnv.append hys14, by rw [List.length_append]; omega, by rw [List.length_append]; omega, hoN3, hB1⟩
  rintro g _ _ hh2 tk ⟨hle, Γg, kgg, ss, sg, nt, nkvs, bkvs, nv, nn, c, n1, n2, obp, oan, on, oN, ob, j1, j2, j3, j4, j5, j6, j7, j8, j9, rfl, rfl, hSt, hSD, hbk, hNO, hID, hnv, hn2, hnl, hoN, hB⟩ D
  have D := (((D.pick (p := (L + 2, oN)) (by walk_at "m.pick")).pick (p := (an, oan)) (by walk_at "m.pick")).pick (p := (bp, obp)) (by walk_at "m.pick")).pick (p := (al, listOf (ss.map Value.ref).toArray n1)) (by walk_at "m.pick")
  obtain ⟨G2, le2, Γ2, D, F2, kg2⟩ := Mem.freezeB (fr := [(al, listOf (ss.map Value.ref).toArray n1), (bp, obp), (an, oan), (L + 2, oN)]) (b := b) (ob := ob) D Γg kgg (by walk_at "m.mem")
  have F2 := (F0.mono (N0.mono (hle.trans le2))).app F2
  have hSt := hSt.mono (N0.mono le2)
  clear F0 gdw gaW gaN gdd gaD gcB
  have gdw : G2 dw = some ow := N0.le _ _ (F2.get (by walk_at "m.mem"))
  have gaW : G2 aW = some (instObj 52 dw) := N0.le _ _ (F2.get (by walk_at "m.mem"))
  have gaN : G2 aN = some (instObj 290 dn) := N0.le _ _ (F2.get (by walk_at "m.mem"))
  have gdd : G2 dd = some od := N0.le _ _ (F2.get (by walk_at "m.mem"))
  have gaD : G2 aD = some (instObj 206 dd) := N0.le _ _ (F2.get (by walk_at "m.mem"))
  have gcB : G2 (L + 1) = some oB := N0.le _ _ (F2.get (by walk_at "m.mem"))
  have gcN : G2 (L + 2) = some oN := N0.le _ _ (F2.get (by walk_at "m.mem"))
  have gal : G2 al = some (listOf (ss.map Value.ref).toArray n1) := N0.le _ _ (F2.get (by walk_at "m.mem"))
  -- the cells
  repeat walk_at "m.step"
  refine w_marble (HA'.le (by omega)) Γ2 (by walk_at "m.D") (by walk_at "m.mem") hB (by omega) fun h9 tk9 t9 ob2 v2 hB2 H9 hv0 hv6 => ?_
  have D9 := ((H9 _ (by walk_at "m.rep")).pick (p := (ac, listOf #[] 0)) (by walk_at "m.pick")).pick (p := (dn, on)) (by walk_at "m.pick")
  obtain ⟨m2, rfl⟩ : ∃ m2 : Nat, v2 = (m2 : Int) := ⟨v2.toNat, by omega⟩
  repeat walk_at "m.step"
  refine r_iter_rangeP (n := m2) (nm := nmB) (by omega) hh D9
    (WBu2 G2 w h b aD aN aW dn ac lN ad oad ap m)
    ⟨fun _ _ e => e, Γ2, kg2, [], [], nv, nn, c, 0, n2, on, ob2, _, _, _, _, _, _, _, _, _, rfl, rfl, .nil, hNO, hnv, hn2, hnl, hB2⟩ ?_ ?_
  · rintro R' i g _ _ hh2 tk ti I oI hi ⟨hle, Γg, kgg, cs, ce, nv, nn, c, n1, n2, on, ob, j1, j2, j3, j4, j5, j6, j7, j8, j9, rfl, rfl, hSt2, hNO, hnv, hn2, hnl, hB⟩ D
    have gaN := hle _ _ gaN
    have gcB := hle _ _ gcB
    have gcN := hle _ _ gcN
    repeat walk_at "m.step"
    refine r_listcomp_to (cl := [(Str.ofString "nets", L + 2), (Str.ofString "bag", L + 1)]) rfl rfl (by decide +kernel) rfl ?_
    repeat walk_at "m.step"
    refine w_marble (HA'.le (by omega)) Γg (by walk_at "m.D") (by walk_at "m.mem") hB (by omega) fun h9 tk9 t9 ob1 v1 hB1 H9 hv0 hv7 => ?_
    have D9 := H9 _ (by walk_at "m.rep")
    repeat walk_at "m.step"
    obtain ⟨q, hq2, hqe⟩ : ∃ q : Nat, q ≤ 2 ∧ 1 + v1 = (q : Int) := ⟨(1 + v1).toNat, by omega, by omega⟩
    rw [hqe]
    refine w_range (by omega) hh D9 fun I2 h2 tk2 St o0 W hI D2 hst => ?_
    refine r_comp W hI (fun z ys σ' => ∃ (ob : Obj) (ns : List Int), σ' = [(I, oI), (dn, on), (ac, listOf (cs.map Value.ref).toArray n1), (lN, listOf nv.toArray n2), (b, ob), (ad, oad), (ap, listOf #[] 0)] ∧ BagO ob ∧ IntsAre ys ns ∧ ns.length = z) (fun b hb hne => absurd (List.mem_singleton.mp hb) hne) D2 hst ⟨ob1, [], rfl, hB1, .nil, rfl⟩ (by omega) (fun z ys σ' ⟨_, _, _, _, z, e⟩ => by rw [z.length, e]; exact Nat.le_refl _) ?_ ?_ (by decide +kernel) rfl rfl
    · rintro z Gc C nD ys _ h tk v oI2 acc hz ⟨_, tv, rfl⟩ ⟨ob, ns, rfl, hB, hys, hnl2⟩ hGc D
      have Γc : Gnd w Gc := Γg.mono hGc
      have gcB := hGc _ _ gcB
      have gcN := hGc _ _ gcN
      refine comp_noif ?_
      refine ite_t ?_
      repeat walk_at "m.step"
      refine w_marble (HA'.le (by omega)) Γc (by walk_at "m.D") (by walk_at "m.mem") hB (by omega) fun h3 tk3 t3 ob2 v2 hB2 H3 hv20 hv2n => ?_
      walk_at "m.up"
      obtain ⟨x, tx, hx⟩ := item_int hnv hv20 hv2n
      repeat walk_at "m.step"
      refine l_item (by walk_at "m.D") (.inr (by walk_at "m.mem")) hv20 (by omega) hx ?_ (by with_unfolding_all rfl)
      rename Mem _ _ _ _ _ _ => D₂
      exact ⟨_, _, _, rfl, D₂, ob2, ns ++ [x], rfl, hB2, hys.append (.cons _ _ .nil), by rw [List.length_append, hnl2]; rfl⟩
    · rintro acc nD ys _ h tk C mC ⟨ob, ns, rfl, hB, hys, hnl2⟩ D hC hO
      refine comp_name' (y := Str.ofString "ins") D hC hO (by walk_at "m.put") fun h' tk' D' => ?_
      have hm3 := hNO.meth3
      repeat walk_at "m.step"
      have hyl := hys.length
      have hcl : cs.length = i := hSt2.cells.1.trans hSt2.lc
      have hcz : (cs.map Value.ref).length ≤ 1000 := by rw [List.length_map]; omega
      have hz : nv.length ≤ 2 ^ 20 := by omega
      have D' := D'.sel (σ' := [(dn, on), (ac, listOf (cs.map Value.ref).toArray n1), (acc, listOf ys.toArray nD), (I, oI), (lN, listOf nv.toArray n2), (b, ob), (ad, oad), (ap, listOf #[] 0)]) (by walk_at "m.sel")
      refine w_add_cell (HA'.le (by omega)) Γg D' gaN hNO hcz (by omega) fun h3 tk3 on2 n3 ti2 tt u2 v2 D3 hNO2 => ?_
      dsimp only [List.cons_append, List.nil_append] at D3
      repeat walk_at "m.step"
      rename Mem _ _ _ _ _ _ => D4
      rw [show cs.map Value.ref ++ [Value.ref tt] = (cs ++ [tt]).map Value.ref by simp] at D4
      have D4 := D4.sel (σ' := [(tt, tupOf #[.str _ _, .int c u2, .ref ti2, .none] 0), (ti2, tupOf ys.toArray 0), (I, oI), (dn, on2), (ac, listOf ((cs ++ [tt]).map Value.ref).toArray n3), (lN, listOf (nv ++ [Value.int c v2]).toArray _), (b, ob), (ad, oad), (ap, listOf #[] 0)]) (by walk_at "m.sel")
      obtain ⟨G3, le3, Γ3, D5, F3, kg3⟩ := Mem.freezeB (fr := [(tt, tupOf #[.str _ _, .int c u2, .ref ti2, .none] 0), (ti2, tupOf ys.toArray 0)]) (b := b) (ob := ob) D4 Γg kgg (by walk_at "m.mem")
      exact Turn.next (own := [(I, oI)]) D5 ⟨hle.trans le3, Γ3, kg3, cs ++ [tt], ce ++ [(c, ns)], nv ++ [.int c v2], nn ++ [c], c + 1, n3, _, on2, ob, _, _, _, _, _, _, _, _, _, rfl, rfl,
        (hSt2.mono (N0.mono le3)).more ⟨_, _, u2, ti2, 0, F3 _ (.head _), ys, 0, F3 _ (.tail _ (.head _)), hys⟩ (by show ns.length ≤ 2; omega), hNO2, hnv.append (.cons _ _ .nil), by rw [List.length_append]; omega, by rw [List.length_append]; simp only [List.length_singleton]; omega, hB⟩
  rintro g _ _ hh3 tk ⟨hle, Γg, kgg, cs, ce, nv, nn, c2, nc, nl2, on, ob, j1, j2, j3, j4, j5, j6, j7, j8, j9, rfl, rfl, hSt2, hNO, hnv, hn2, hnl, hB⟩ D
  obtain ⟨G3, le3, Γ3, D, F3, kg3⟩ := Mem.freezeB (fr := [(dn, on), (ac, listOf (cs.map Value.ref).toArray nc), (lN, listOf nv.toArray nl2)]) (b := b) (ob := ob) D Γg kgg (by walk_at "m.mem")
  have F3 := (F2.mono (N0.mono (hle.trans le3))).app F3
  have hSt := hSt.mono (N0.mono (hle.trans le3))
  have hSt2 := hSt2.mono (N0.mono le3)
  clear F2 gdw gaW gaN gdd gaD gcB gcN gal
  have gdw : G3 dw = some ow := N0.le _ _ (F3.get (by walk_at "m.mem"))
  have gaW : G3 aW = some (instObj 52 dw) := N0.le _ _ (F3.get (by walk_at "m.mem"))
  have gdd : G3 dd = some od := N0.le _ _ (F3.get (by walk_at "m.mem"))
  have gaD : G3 aD = some (instObj 206 dd) := N0.le _ _ (F3.get (by walk_at "m.mem"))
  have gcB : G3 (L + 1) = some oB := N0.le _ _ (F3.get (by walk_at "m.mem"))
  have gcN : G3 (L + 2) = some oN := N0.le _ _ (F3.get (by walk_at "m.mem"))
  have gal : G3 al = some (listOf (ss.map Value.ref).toArray n1) := N0.le _ _ (F3.get (by walk_at "m.mem"))
  have glN : G3 lN = some (listOf nv.toArray nl2) := N0.le _ _ (F3.get (by walk_at "m.mem"))
  have hsl : ss.length = m := hSt.sigs.1.trans hSt.ls
  repeat walk_at "m.step"
  refine l_len (xs := ss.map Value.ref) (by walk_at "m.D") (.inl gal) (by rw [List.length_map]; omega) fun tm tkm => ?_
  rw [List.length_map, hsl]
  repeat walk_at "m.step"
  -- the drivers
  refine w_marble (HA'.le (by omega)) Γ3 (by walk_at "m.D") (by walk_at "m.mem") hB (by omega) fun h9 tk9 t9 ob3 v3 hB3 H9 hv0 hv4 => ?_
  have D9 := (H9 _ (by walk_at "m.rep")).sel (σ' := (ad, oad) :: ([] ++ [(b, ob3), (ap, listOf #[] 0)])) (by walk_at "m.sel")
  obtain ⟨m3, rfl⟩ : ∃ m3 : Nat, v3 = (m3 : Int) := ⟨v3.toNat, by omega⟩
  repeat walk_at "m.step"
  refine r_iter_rangeP (n := m3) (nm := nmB) (by omega) hh D9
    (WBu3 G3 w h b aD aN aW m tm ad ap)
    ⟨fun _ _ e => e, Γ3, kg3, [], [], [], oad, ob3, _, _, _, _, _, _, _, _, rfl, rfl, hTD, .nil, Nat.le_refl _, (fun r hr => nomatch hr), hB3⟩ ?_ ?_
  · rintro R' i g _ _ hh2 tk ti I oI hi ⟨hle, Γg, kgg, xs, dl, roots, o, ob, j1, j2, j3, j4, j5, j7, j8, j9, rfl, rfl, hTD, hDS, hrl, hrr, hB⟩ D
    have gdw := hle _ _ gdw
    have gaW := hle _ _ gaW
    have gcB := hle _ _ gcB
    have gcN := hle _ _ gcN
    have glN := hle _ _ glN
    repeat walk_at "m.step"
    refine w_marble (HA'.le (by omega)) Γg (by walk_at "m.D") (by walk_at "m.mem") hB (by omega) fun h3 tk3 t3 ob2 v2 hB2 H3 hv20 hv2n => ?_
    walk_at "m.up"
    repeat walk_at "m.step"
    refine w_marble (HA'.le (by omega)) Γg (by walk_at "m.D") (by walk_at "m.mem") hB2 (by omega) fun h4 tk4 t4 ob4 v4 hB4 H4 hv40 hv4n => ?_
    walk_at "m.up"
    repeat walk_at "m.step"
    refine w_marble (HA'.le (by omega)) Γg (by walk_at "m.D") (by walk_at "m.mem") hB4 (by omega) fun h5 tk5 t5 ob5 v5 hB5 H5 hv50 hv5n => ?_
    walk_at "m.up"
    obtain ⟨x, tx, hx⟩ := item_int hnv hv50 hv5n
    repeat walk_at "m.step"
    refine l_item (by walk_at "m.D") (.inl glN) hv50 (by omega) hx ?_ (by with_unfolding_all rfl)
    repeat walk_at "m.step"
    rename Mem _ _ _ _ _ _ => D6
    have D6 := D6.perm (σ' := ((ad, o) :: dl) ++ ((I, oI) :: [(b, ob5), (ap, listOf #[] 0)])) (List.perm_middle (l₁ := (ad, o) :: dl)).symm
    refine w_drive (K := fun a ob => N0 h g a = some ob) (fun _ _ e => N0.le _ _ e) (HA'.le (by omega)) Γg D6 gaW gdw fw2 hTD hDS (by have := hDS.2.1; omega) (fun r hr => by have := hrr r hr; omega) fun h7 tk7 o' xs' dl' roots' pl op D7 hTD' hDS' hrl' hrr' => ?_
    repeat walk_at "m.step"
    obtain ⟨G4, le4, Γ4, D8, F4, kg4⟩ := Mem.freezeB (fr := [(pl, op)]) (b := b) (ob := ob5) D7 Γg kgg (List.mem_append_right _ (.tail _ (.head _)))
    have D8 := D8.perm (σ' := (I, oI) :: (((ad, o') :: dl') ++ [(b, ob5), (ap, listOf #[] 0)])) List.perm_middle
    exact Turn.next (own := [(I, oI)]) D8 ⟨hle.trans le4, Γ4, kg4, xs', dl', roots', o', ob5, _, _, _, _, _, _, _, _, rfl, rfl, hTD', hDS'.mono (fun a ob e => e.elim (fun e => N0.mono le4 _ _ e) fun e => by rw [e.1, e.2]; exact F4 _ (.head _)), by omega, fun r hr => hrr' i hrr r hr, hB5⟩
  rintro g _ _ hh4 tk ⟨hle, Γg, kgg, xs, dl, roots, o, ob, j1, j2, j3, j4, j5, j7, j8, j9, rfl, rfl, hTD, hDS, hrl, hrr, hB⟩ D
  obtain ⟨G4, le4, Γ4, D, F4, kg4⟩ := Mem.freezeB (fr := (ad, o) :: dl) (σ := [(b, ob), (ap, listOf #[] 0)]) (b := b) (ob := ob) D Γg kgg (by walk_at "m.mem")
  have F3 := F3.mono (N0.mono (hle.trans le4))
  have hSt := hSt.mono (N0.mono (hle.trans le4))
  have hSt2 := hSt2.mono (N0.mono (hle.trans le4))
  have hDS := hDS.mono (fun a ob e => N0.mono le4 a ob e)
  have gdd := le4 _ _ (hle _ _ gdd)
  have gaD := le4 _ _ (hle _ _ gaD)
  have gcB := le4 _ _ (hle _ _ gcB)
  have gcN := le4 _ _ (hle _ _ gcN)
  have glN := le4 _ _ (hle _ _ glN)
  clear gdw gaW gal
  -- the ports
  repeat walk_at "m.step"
  refine w_marble (HA'.le (by omega)) Γ4 (by walk_at "m.D") (by walk_at "m.mem") hB (by omega) fun h9 tk9 t9 ob4 v4 hB4 H9 hv0 hv3 => ?_
  have D9 := H9 _ (by walk_at "m.rep")
  obtain ⟨m4, rfl⟩ : ∃ m4 : Nat, v4 = (m4 : Int) := ⟨v4.toNat, by omega⟩
  repeat walk_at "m.step"
  refine r_iter_rangeP (n := m4) (nm := nmB) (by omega) hh D9
    (WBu4 G4 w h b aD aN aW m tm ap)
    ⟨fun _ _ e => e, Γ4, kg4, [], [], 0, ob4, _, _, _, _, _, _, _, _, rfl, rfl, .nil, rfl, (fun r hr => nomatch hr), hB4⟩ ?_ ?_
  · rintro R' i g _ _ hh2 tk ti I oI hi ⟨hle, Γg, kgg, ps, po, np, ob, j1, j2, j3, j4, j5, j7, j8, j9, rfl, rfl, hps, hpl, hpk, hB⟩ D
    have gdd := hle _ _ gdd
    have gaD := hle _ _ gaD
    have gcB := hle _ _ gcB
    have hpz : (ps.map Value.ref).length ≤ 2 ^ 20 := by have := hps.1; rw [List.length_map]; omega
    repeat walk_at "m.step"
    refine w_marble (HA'.le (by omega)) Γg (by walk_at "m.D") (by walk_at "m.mem") hB (by omega) fun h3 tk3 t3 ob2 v2 hB2 H3 hv20 hv2n => ?_
    walk_at "m.up"
    repeat walk_at "m.step"
    refine l_item (by walk_at "m.D") (.inr (by walk_at "m.mem")) hv20 (by omega) (two_at hv20 hv2n) ?_ (by with_unfolding_all rfl)
    repeat walk_at "m.step"
    refine s_int (k := i) (by omega) fun xk tx tkx hxk => ?_
    repeat walk_at "m.step"
    refine s_add (by have : (Str.ofString "p").length = 1 := rfl; omega) fun tp tkp => ?_
    repeat walk_at "m.step"
    refine w_marble (HA'.le (by omega)) Γg (by walk_at "m.D") (by walk_at "m.mem") hB2 (by omega) fun h5 tk5 t5 ob5 v5 hB5 H5 hv50 hv5n => ?_
    walk_at "m.up"
    obtain ⟨k, rfl⟩ : ∃ k : Nat, v5 = (k : Int) := ⟨v5.toNat, by omega⟩
    repeat walk_at "m.step"
    rename Mem _ _ _ _ _ _ => D6
    rename_i pt _ _ _ np2 _
    rw [show ps.map Value.ref ++ [Value.ref pt] = (ps ++ [pt]).map Value.ref by simp] at D6
    have D6 := D6.sel (σ' := [(pt, tupOf #[.str (if v2 = 0 then Str.ofString "output" else Str.ofString "input") _, .str _ tp, .int k t5] 0), (I, oI), (b, ob5), (ap, listOf ((ps ++ [pt]).map Value.ref).toArray np2)]) (by walk_at "m.sel")
    obtain ⟨G5, le5, Γ5, D7, F5, kg5⟩ := Mem.freezeB (fr := [(pt, tupOf #[.str _ _, .str _ tp, .int k t5] 0)]) (b := b) (ob := ob5) D6 Γg kgg (by walk_at "m.mem")
    exact Turn.next (own := [(I, oI)]) D7 ⟨hle.trans le5, Γ5, kg5, ps ++ [pt], po ++ [k], np2, ob5, _, _, _, _, _, _, _, _, rfl, rfl, (hps.mono fun _ _ => PortOK.mono (N0.mono le5)).snoc ⟨_, _, _, tp, t5, 0, F5 _ (.head _)⟩, by rw [List.length_append, hpl]; rfl, fun q hq => (List.mem_append.mp hq).elim (hpk q) fun hq => by rw [List.mem_singleton.mp hq]; omega, hB5⟩
  rintro g _ _ hh5 tk ⟨hle, Γg, kgg, ps, po, np, ob, j1, j2, j3, j4, j5, j7, j8, j9, rfl, rfl, hps, hpl, hpk, hB⟩ D
  have D := D.sel (σ' := [(ap, listOf (ps.map Value.ref).toArray np), (b, ob)]) (by walk_at "m.sel")
  obtain ⟨G5, le5, Γ5, D, F5, kg5⟩ := Mem.freezeB (fr := [(ap, listOf (ps.map Value.ref).toArray np)]) (σ := [(b, ob)]) (b := b) (ob := ob) D Γg kgg (by walk_at "m.mem")
  have F3 := F3.mono (N0.mono (hle.trans le5))
  have F4 := F4.mono (N0.mono (hle.trans le5))
  have hSt := hSt.mono (N0.mono (hle.trans le5))
  have hSt2 := hSt2.mono (N0.mono (hle.trans le5))
  have hDS := hDS.mono (fun a ob e => N0.mono (hle.trans le5) a ob e)
  have hps := hps.mono fun _ _ => PortOK.mono (N0.mono le5)
  have gcB := le5 _ _ (hle _ _ gcB)
  have gcN := le5 _ _ (hle _ _ gcN)
  have glN := le5 _ _ (hle _ _ glN)
  clear gdd gaD
  -- the rows
  repeat walk_at "m.step"
  refine w_marble (HA'.le (by omega)) Γ5 (by walk_at "m.D") (by walk_at "m.mem") hB (by omega) fun h9 tk9 t9 ob5 v5 hB5 H9 hv0 hv7 => ?_
  have D9 := H9 _ (by walk_at "m.rep")
  obtain ⟨m5, rfl⟩ : ∃ m5 : Nat, v5 = (m5 : Int) := ⟨v5.toNat, by omega⟩
  repeat walk_at "m.step"
  rename_i lR _ _ _ _ _ _ _
  refine r_iter_rangeP (n := m5) (nm := nmB) (by omega) hh D9
    (WBu5 G5 w h b aD aN aW m tm lR)
    ⟨fun _ _ e => e, Γ5, kg5, [], [], 0, ob5, _, _, _, _, _, _, _, rfl, rfl, .nil, rfl, (fun r hr => nomatch hr), (fun r hr => nomatch hr), (fun r hr => nomatch hr), hB5⟩ ?_ ?_
  · rintro R' i g _ _ hh2 tk ti I oI hi ⟨hle, Γg, kgg, rs, ro, nr, ob, j1, j2, j3, j4, j5, j8, j9, rfl, rfl, hrs, hrl, hrk, hr4, hrd, hB⟩ D
    have gcB := hle _ _ gcB
    have gcN := hle _ _ gcN
    have glN := hle _ _ glN
    have hrz : (rs.map Value.ref).length ≤ 2 ^ 20 := by have := hrs.1; rw [List.length_map]; omega
    repeat walk_at "m.step"
    refine w_marble (HA'.le (by omega)) Γg (by walk_at "m.D") (by walk_at "m.mem") hB (by omega) fun h3 tk3 t3 ob2 v2 hB2 H3 hv20 hv2n => ?_
    walk_at "m.up"
    obtain ⟨k, rfl⟩ : ∃ k : Nat, v2 = (k : Int) := ⟨v2.toNat, by omega⟩
    repeat walk_at "m.step"
    refine w_marble (HA'.le (by omega)) Γg (by walk_at "m.D") (by walk_at "m.mem") hB2 (by omega) fun h4 tk4 t4 ob4 v4 hB4 H4 hv40 hv4n => ?_
    walk_at "m.up"
    obtain ⟨x, tx, hx⟩ := item_int hnv hv40 hv4n
    repeat walk_at "m.step"
    refine l_item (by walk_at "m.D") (.inl glN) hv40 (by omega) hx ?_ (by with_unfolding_all rfl)
    repeat walk_at "m.step"
    refine w_marble (HA'.le (by omega)) Γg (by walk_at "m.D") (by walk_at "m.mem") hB4 (by omega) fun h6 tk6 t6 ob6 v6 hB6 H6 hv60 hv6n => ?_
    walk_at "m.up"
    obtain ⟨y, ty, hy⟩ := item_int hnv hv60 hv6n
    repeat walk_at "m.step"
    refine l_item (by walk_at "m.D") (.inl glN) hv60 (by omega) hy ?_ (by with_unfolding_all rfl)
    repeat walk_at "m.step"
    refine w_marble (HA'.le (by omega)) Γg (by walk_at "m.D") (by walk_at "m.mem") hB6 (by omega) fun h7 tk7 t7 ob7 v7 hB7 H7 hv70 hv73 => ?_
    walk_at "m.up"
    repeat walk_at "m.step"
    rename Mem _ _ _ _ _ _ => D8
    obtain ⟨G6, ra, ins, le6, Γ6, D9, kg6, hget, hrow, hil, hrdd⟩ := row_pick (b := b) (ob := ob7) D8 Γg kgg (by walk_at "m.mem") hv70 hv73
    refine l_item D9 (.inr (.head _)) hv70 (by omega) hget ?_ (by with_unfolding_all rfl)
    repeat walk_at "m.step"
    rename Mem _ _ _ _ _ _ => D10
    rw [show rs.map Value.ref ++ [Value.ref ra] = (rs ++ [ra]).map Value.ref by simp] at D10
    have le7 := N0.mono (h := h) le6
    exact Turn.next (own := [(I, oI)]) D10.tail ⟨hle.trans le6, Γ6, kg6, rs ++ [ra], ro ++ [(k, ins)], _, ob7, _, _, _, _, _, _, _, rfl, rfl, (hrs.mono fun _ _ => RowOK.mono le7).snoc hrow, by rw [List.length_append, hrl]; rfl,
      fun r hr => (List.mem_append.mp hr).elim (hrk r) fun hr => by rw [List.mem_singleton.mp hr]; show k < m; omega, fun r hr => (List.mem_append.mp hr).elim (hr4 r) fun hr => by rw [List.mem_singleton.mp hr]; exact hil,
      fun a ha => (List.mem_append.mp ha).elim (fun ha => (hrd a ha).mono le7) fun ha => by rw [List.mem_singleton.mp ha]; exact hrdd, hB7⟩
  rintro g _ _ hh6 tk ⟨hle, Γg, kgg, rs, ro, nr, ob, j1, j2, j3, j4, j5, j8, j9, rfl, rfl, hrs, hrl, hrk, hr4, hrd, hB⟩ D
  repeat walk_at "m.step"
  rename Mem _ _ _ _ _ _ => D9
  obtain ⟨G6, le6, Γ6, D, F6, kg6⟩ := Mem.freezeB (fr := [(_, tupOf #[.ref aD, .ref aN, .ref aW, .ref lR] 0), (lR, listOf (rs.map Value.ref).toArray nr)]) (σ := [(b, ob)]) (b := b) (ob := ob) D9 Γg kgg (by walk_at "m.mem")
  have k6 := N0.mono (h := h) (hle.trans le6)
  have F3 := F3.mono k6
  have F4 := F4.mono k6
  have F5 := F5.mono k6
  have hSt := hSt.mono k6
  have hSt2 := hSt2.mono k6
  have hDS := hDS.mono (fun a ob e => k6 a ob e)
  have hps := hps.mono fun _ _ => PortOK.mono k6
  have hrs := hrs.mono fun _ _ => RowOK.mono (N0.mono le6)
  have hss : sg.length = m := hSt.ls
  refine hR _ _ (N0 h G6) _ aD aN aW lR ⟨sg, nt, ce, roots, po, ro⟩ 0 rs nr (D.kept kg6) (fun a o e => ⟨D.keep _ _ (N0.le _ _ e), N0.new e⟩) (F6 _ (.head _)) ?_ ?_ (F6 _ (.tail _ (.head _))) hrs (fun a ha => (hrd a ha).mono (N0.mono le6))
  · exact ⟨⟨dd, od, al, ap, F3.get (by walk_at "m.mem"), F3.get (by walk_at "m.mem"), fd1, fd2, ⟨ss, n1, F3.get (by walk_at "m.mem"), hSt.sigs⟩, ps, np, F5.get (.head _), hps⟩,
      ⟨dn, on, ac, F3.get (by walk_at "m.mem"), F3.get (by walk_at "m.mem"), hNO.cells, cs, nc, F3.get (by walk_at "m.mem"), hSt2.cells⟩,
      ⟨dw, ow, an, ad, F3.get (by walk_at "m.mem"), F3.get (by walk_at "m.mem"), fw1, fw2, ⟨oan, nkvs, F3.get (by walk_at "m.mem"), hID, hSt.nk.trans hSt.ln.symm, hSt.nets⟩, drvOK_of hTD hDS F4⟩,
      rs, nr, F6 _ (.tail _ (.head _)), hrs⟩
  · refine ⟨?_, ?_, hSt.n4, ?_, hSt2.i2, ?_, fun r hr => ?_, ?_, fun k hk => ?_, ?_, fun r hr => ?_, hr4, hSt.disj, hSt2.nd⟩
    · show sg.length ≤ 7; omega
    · exact hSt.ln.trans hSt.ls.symm
    · show ce.length ≤ 6; rw [hSt2.lc]; omega
    · show roots.length ≤ 3; omega
    · have := hrr r hr; omega
    · show po.length ≤ 3; omega
    · show k < sg.length; have := hpk k hk; omega
    · show ro.length ≤ 7; omega
    · show r.1 < sg.length; have := hrk r hr; omega
/-! G0 -/
section
variable {w : World} {A : Around} {G : Gh} {L : Addr} {nm : List Str} {vs vs' : List (Option Value)} {σ σ' : List (Addr × Obj)} {h h' : Heap} {s₀ : Shared} {tk : Nat} {env : Env} {E : Value → Shared → Prop}
/-- the cells of a frame, as objects of it -/
theorem enterD {f : Addr} {W : List (Addr × Obj)} {name qual : Str} {params : Arguments} {body : List Stmt} {scope : Scope} {dV kV doc pm cdv ct oc : Value} {an od : Option Addr} {osl : Array (Option Value)} {args : Args} {binds : List (Str × Value)} {R : Result → Shared → Prop}
    {n : Nat} (HA : Room A (n + 1)) (Γ : Gnd w G) (k : ∀ b o, G b = some o → h.get? b = some o) (ho : (KK w).lookup f = some ⟨oc, od, .func (fnX name qual params body scope [] dV kV doc pm an cdv ct), osl⟩) (hcode : codeIn (KK w) cdv qual = true)
    (hbind : BindsTo (S s₀ h tk) (fnX name qual params body scope [] dV kV doc pm an cdv ct) args binds)
    (hkind : ∀ n, ∀ x ∈ binds, scope.names.lookup x.1 = some .local ∨ (scope.names.lookup x.1 = some .cell ∧ ((cellsFrom n scope.names []).lookup x.1).isSome = true))
    (hcnd : ((cellsFrom 0 scope.names []).map (·.1)).Nodup)
    (hnd : nm.Nodup) (hat : ∀ L', Alls nm vs fun x v => bindL (envOfC qual scope L' f cdv).kindOf binds (fun _ => none) x = some v) (hW : ∀ p ∈ W, h.get? p.1 = some p.2 ∧ G p.1 = none) (hWn : (W.map (·.1)).Nodup)
    (H : ∀ A' G' L' h₁ tk₁ cells, Room A' n → Gnd w G' → (∀ b o, h.get? b = some o → b ∉ W.map (·.1) → G' b = some o) →
      CellsAre (bindC (envOfC qual scope L' f cdv).kindOf binds fun _ => none) (cellsFrom (L' + 1) scope.names []) cells → (∀ b o, G' b = some o → h.get? b = some o) → Mem G' L' nm vs (cells ++ W) h₁ → (∀ l, A.frames = some l → A'.frames = some (envOfC qual scope L' f cdv :: l)) →
      wpAny (MM w) A' (execs body (envOfC qual scope L' f cdv)) (fun fl s' => R (.ok (.ret (match fl with | .ret v => v | _ => .none))) s') F0 (S s₀ h₁ tk₁))
    (hco : scope.isCoroutine = false := by rfl) (hgen : scope.isGenerator = false := by rfl) (hk : scope.kind = .function := by rfl) :
    codeAny (MM w) A (.call (.ref f) args) R (S s₀ h tk) := by
  have X := Γ.kin k
  have gW : ∀ b ∈ W.map (·.1), G b = none := fun b hb => by obtain ⟨p, hp, rfl⟩ := List.mem_map.mp hb; exact (hW p hp).2
  refine codeAny_call_function (s := S s₀ h tk) HA.lim (X _ _ ho) rfl hco hgen rfl (codeRec_of X hcode) (hbind _ _ _ _ ?_)
  refine wpAny_newFunctionEnv_cells hk (hkind _) fun env' he s' x => ?_
  subst he
  refine ⟨(Γ.nolimit k).keeps x.toInCall.keep, codeAny_func ?_⟩
  obtain ⟨h₁, tk₁, rfl, _⟩ := x.done
  have hk₁ := x.toInCall.keep
  obtain ⟨cells, NC, Y⟩ := Cl.news (h₀ := h) (Nat.le_refl _) fun n c hm => ⟨x.cell n c (lookup_of_mem_nodup (cellsFrom_names scope.names 0 (h.objs.size + 1) [] [] rfl ▸ hcnd) hm), x.above n c hm⟩
  have cnd : (cells.map (·.1)).Nodup := by
    have q := cells_addr Y
    rw [q]
    have a := x.apart
    exact List.pairwise_map.mpr a
  refine wpAny_mono (H _ (hide (W.map (·.1)) h) h.objs.size h₁ tk₁ cells (HA.deeper _) (Γ.hide k gW) (fun b o e n => hide_some e n) Y (fun b o e => hide_of e) ?_ fun l hl => Around.frames_deeper hl) (fun _ _ q => q) (fun _ _ q => q.elim)
  refine ⟨⟨_, x.toInCall.ns, fun _ _ a => (hat _).at_ a⟩, fun b o e => hk₁ b o (hide_of e), fun p hp => ?_, fun p hp => ?_, ?_, ?_, hnd⟩
  · rcases List.mem_append.mp hp with hp | hp
    · exact (NC p hp).1
    · exact hk₁ _ _ (hW p hp).1
  · rcases List.mem_append.mp hp with hp | hp
    · refine ⟨(NC p hp).2.1, ?_⟩
      cases q : hide (W.map (·.1)) h p.1 with
      | none => rfl
      | some o => have := hide_of q; rw [(NC p hp).2.2] at this; cases this
    · exact ⟨Nat.ne_of_lt (Heap.lt_size (hW p hp).1), hide_none (List.mem_map_of_mem hp)⟩
  · rw [List.map_append]
    refine List.nodup_append.mpr ⟨cnd, hWn, fun a ha b hb e => ?_⟩
    obtain ⟨p, hp, rfl⟩ := List.mem_map.mp ha
    obtain ⟨q, hq, rfl⟩ := List.mem_map.mp hb
    have e : p.1 = q.1 := e
    have := (NC p hp).2.2
    rw [e, (hW q hq).1] at this; cases this
  · cases q : hide (W.map (·.1)) h h.objs.size with
    | none => rfl
    | some o => exact absurd (Heap.lt_size (hide_of q)) (Nat.lt_irrefl _)
/-- behind a call that used one up and gave what is new -/
theorem Mem.adopt {b : Addr} {ob : Obj} {g : Gh} (D : Mem G L nm vs ((b, ob) :: σ) h) (Γ : Gnd w G) (kp : Keep [b] h h') (hg : ∀ a o, g a = some o → h'.get? a = some o ∧ h.get? a = none) :
    ∃ G2, Le G G2 ∧ Le g G2 ∧ Gnd w G2 ∧ Mem G2 L nm vs σ h' := by
  have hb := D.off _ (.head _)
  have gn : ∀ a o, h.get? a = some o → g a = none := fun a o e => by
    cases q : g a with
    | none => rfl
    | some o' => have := (hg a o' q).2; rw [e] at this; cases this
  have le1 : Le G (fun a => (g a).or (G a)) := fun a o e => by
    show (g a).or (G a) = some o
    rw [gn a o (D.keep a o e)]; exact e
  refine ⟨fun a => (g a).or (G a), le1, fun a o e => by show (g a).or (G a) = some o; rw [e]; rfl, Γ.mono le1, ?_⟩
  have hL := D.ns
  have hbL : L ≠ b := fun e => hb.1 e.symm
  have nd := List.nodup_cons.mp D.nd
  refine ⟨?_, fun a o e => ?_, fun p hp => ?_, fun p hp => ?_, nd.2, ?_, D.nmnd⟩
  · obtain ⟨m, n, a⟩ := D.ns
    exact ⟨m, n.at' fun o e => kp _ _ e (fun q => hbL (List.mem_singleton.mp q)), a⟩
  · have e : (g a).or (G a) = some o := e
    cases q : g a with
    | some o' => rw [q] at e; cases e; exact (hg a _ q).1
    | none =>
      rw [q] at e
      refine kp _ _ (D.keep a o e) fun z => ?_
      rw [List.mem_singleton.mp z] at e
      have e : G b = some o := e
      rw [hb.2] at e; cases e
  · refine kp _ _ (D.own p (.tail _ hp)) fun z => ?_
    exact nd.1 (List.mem_map.mpr ⟨p, hp, List.mem_singleton.mp z⟩)
  · have := D.off p (.tail _ hp)
    refine ⟨this.1, ?_⟩
    show (g p.1).or (G p.1) = none
    rw [gn p.1 _ (D.own p (.tail _ hp)), this.2]; rfl
  · show (g L).or (G L) = none
    obtain ⟨m, ⟨o, _, _, e, _⟩, _⟩ := D.ns
    rw [gn L _ e, D.loc]; rfl
theorem l_in {l : Addr} {xs : List Value} {ns : List Int} {n : Nat} {k : Int} {t : Tok} {Q : Value → Shared → Prop} (D : Mem G L nm vs σ h) (kn : Knows G σ l (listOf xs.toArray n)) (hi : IntsAre xs ns)
    (hQ : Q (.bool (decide (k ∈ ns))) (S s₀ h tk)) : wpAny (MM w) A (compareOp .In (.int k t) (.ref l)) Q E (S s₀ h tk) := by
  refine in_list_ints (s := S s₀ h tk) ⟨_, D.knows kn, rfl, n, rfl⟩ hi ?_
  have : (ns.any fun x => x == k) = decide (k ∈ ns) := by
    rw [Bool.eq_iff_iff]; simp
  rw [this]; exact hQ

theorem reads_rows {h : Heap} : ∀ {as : List Addr}, (∀ a ∈ as, RowRd G a) → Le G h.get? → ∃ ds : List PyData, ReadsAll h (as.map Value.ref) ds [] ∧ PyData.canLayAll0 ds = true ∧ ∀ d ∈ ds, d.depth ≤ 4
  | [], _, _ => ⟨[], .nil, by simp [PyData.canLayAll0], fun d m => nomatch m⟩
  | a :: as, hr, k => by
    obtain ⟨ds, r1, r2, r3⟩ := reads_rows (as := as) (fun x m => hr x (.tail _ m)) k
    obtain ⟨d, c1, c2, c3⟩ := hr a (.head _)
    refine ⟨d :: ds, .cons (as := []) (c3 h k) r1, by simp only [PyData.canLayAll0, c1, r2, Bool.and_self], fun x m => ?_⟩
    rcases List.mem_cons.mp m with rfl | m
    · exact c2
    · exact r3 x m
theorem depthAll_le : ∀ {ds : List PyData}, (∀ d ∈ ds, d.depth ≤ 4) → PyData.depthAll ds ≤ 4
  | [], _ => by simp [PyData.depthAll]
  | d :: ds, h => by
    have h1 := h d (.head _)
    have h2 := depthAll_le (ds := ds) fun x m => h x (.tail _ m)
    simp only [PyData.depthAll]
    omega
/-- two lists of the same rows -/
theorem l_eq_rows {a b : Addr} {as : List Addr} {n n' : Nat} {Q : Value → Shared → Prop} (HA : A.units + 64 < cLine) (D : Mem G L nm vs σ h) (ka : Knows G σ a (listOf (as.map Value.ref).toArray n)) (kb : Knows G σ b (listOf (as.map Value.ref).toArray n')) (hr : ∀ x ∈ as, RowRd G x)
    (hQ : Q (.bool true) (S s₀ h tk)) : wpAny (MM w) A (compareOp .Eq (.ref a) (.ref b)) Q E (S s₀ h tk) := by
  obtain ⟨ds, r1, r2, r3⟩ := reads_rows hr D.keep
  have hc : (PyData.list ds).canLay0 = true := by simp only [PyData.canLay0]; exact r2
  have hs : SeqAt.shaped (.list ds) = true := by
    have h4 := depthAll_le r3
    unfold SeqAt.shaped
    rw [hc]
    have : (PyData.list ds).depth ≤ 64 := by simp only [PyData.depth]; omega
    simpa using this
  refine eq_dataH (s := S s₀ h tk) (.list (D.knows ka) rfl rfl (by rw [List.toList_toArray]; exact r1)) (.list (D.knows kb) rfl rfl (by rw [List.toList_toArray]; exact r1)) hs hs HA ?_
  rw [SeqAt.eqv_refl _ hc]
  exact hQ
end
open Classical in
theorem keepB_iff {d : Data} {r : Nat × List Int} : keepB d r = true ↔ (d.sigs[r.1]? ≠ some true ∨ Needed d r.1) := by
  unfold keepB
  exact decide_eq_true_iff
theorem sorted_eq {xs ys as bs : List Int} (h1 : xs.Perm as) (h2 : ys.Perm bs) (s1 : xs.Pairwise (· ≤ ·)) (s2 : ys.Pairwise (· ≤ ·)) (n1 : as.Nodup) (n2 : bs.Nodup) (e : ∀ x, x ∈ as ↔ x ∈ bs) : xs = ys := by
  have p : as.Perm bs := (List.perm_ext_iff_of_nodup n1 n2).mpr e
  exact ((h1.trans p).trans h2.symm).eq_of_pairwise (le := (· ≤ ·)) (fun a b _ _ h1 h2 => Int.le_antisymm h1 h2) s1 s2
/-! G1 -/
abbrev nmW : List Str := [Str.ofString "script", Str.ofString "bag", Str.ofString "netlist", Str.ofString "wires", Str.ofString "rows", Str.ofString "due", Str.ofString "held"]
theorem c_law {w : World} {A : Around} {G : Gh} {h : Heap} {s₀ : Shared} {tk : Nat} {sc : Addr} {R : Result → Shared → Prop} {xs : List Value} {ns : List Int} {os : Obj}
    (HA : Room A 250) (hfr : ∃ l, A.frames = some l) (Γ : Gnd w G) (kp : ∀ b o, G b = some o → h.get? b = some o) (hs : h.get? sc = some os) (hsc : os.cls = .type "list") (hsd : ∃ n, os.data = .seq xs.toArray n) (hi : IntsAre xs ns) (hz : xs.length ≤ 64)
    (hR : ∀ h' tk', Keep [] h h' → R (.ok (.ret (.bool true))) (S s₀ h' tk')) :
    codeAny (MM w) A (.call (.ref 337) ⟨[.ref sc], []⟩) R (S s₀ h tk) := by
  refine enterD (f := 337) (W := []) (nm := nmW) (vs := [some (.ref sc), none, none, none, none, none, none]) (binds := [(Str.ofString "script", .ref sc)]) HA Γ kp rfl rfl (BindsTo.of_eq rfl) ?_ ?_ (by decide +kernel) (fun L' => ⟨rfl, trivial⟩) (fun p hp => nomatch hp) (by simp) ?_
  · intro n y hy
    simp only [List.mem_cons, List.not_mem_nil, or_false] at hy
    rw [hy]
    exact .inl rfl
  · decide +kernel
  intro A' G' L h₁ tk₁ cells HA' Γ' kg hcl _ D hA'
  obtain ⟨oE, oD, rfl, hoE, hoD⟩ := CellsAre.two (n := Str.ofString "needed") (n' := Str.ofString "design") (c := L + 2) (c' := L + 1) hcl
  have D : Mem G' L nmW _ [(L + 2, oE), (L + 1, oD)] h₁ := D
  have hh := HA'.hd
  have kg0 : ∀ a o, h.get? a = some o → G' a = some o := fun a o e => kg a o e (by simp)
  have hfr' : ∃ l, A'.frames = some l := let ⟨l, e⟩ := hfr; ⟨_, hA' l e⟩
  have gs := kg0 _ _ hs
  repeat walk_at "m.step"
  rename Mem _ _ _ _ _ _ => D1
  refine wpAny_call (c_marbles (HA'.le (by omega)) hfr' Γ' D1.keep (D1.knows (.inl gs)) hsc hsd hi hz fun h2 tk2 l2 xs2 ns2 n2 kp2 hn2 hl2 hi2 hz2 => ?_)
  have D2 := D1.fresh (fun b o e => kp2 b o e (by simp)) hl2 hn2
  repeat walk_at "m.step"
  refine Assign_Tuple ?_ rfl rfl
  repeat walk_at "m.step"
  rename Mem _ _ _ _ _ _ => D3
  refine wpAny_call (c_built (HA'.le (by omega)) Γ' D3.keep (D3.get (.head _)) (D3.off _ (.head _)).2 ⟨xs2, ns2, n2, rfl, hi2, hz2⟩ fun h4 tk4 g t aD aN aW aR d nt rs nr kp4 hg ht hlaid gd hgR hrs hrd => ?_)
  obtain ⟨G2, le1, le2, Γ2, D4⟩ := D3.adopt Γ' kp4 hg
  have kg2 : ∀ a o, h.get? a = some o → G2 a = some o := fun a o e => le1 _ _ (kg0 a o e)
  have hlaid := hlaid.mono le2
  have ht := le2 _ _ ht
  have hgR := le2 _ _ hgR
  have hrs := hrs.mono fun _ _ => RowOK.mono le2
  have hrd := fun a ha => (hrd a ha).mono le2
  clear le2 hg D1 D2 D3 kp2 hl2 hn2
  repeat walk_at "m.step"
  refine r_untuple (items := [.ref aD, .ref aN, .ref aW, .ref aR]) hh D4 (.inl ht) rfl rfl fun h5 D5 => ?_
  repeat walk_at "m.step"
  refine stc (by walk_at "m.D") rfl (by walk_at "m.mem") hoD (fun h6 tk6 oD2 hoD2 H6 => ?_) rfl rfl
  walk_at "m.up"
  repeat walk_at "m.step"
  rename Mem _ _ _ _ _ _ => D7
  refine wpAny_call (c_law_needed (HA'.le (by omega)) Γ2 D7.keep hlaid gd fun h8 tk8 l8 ys8 ks8 n8 kp8 hl8 hn8 hi8 hnd8 hk7 hmem8 => ?_)
  have D8 := D7.fresh (fun b o e => kp8 b o e (by simp)) hl8 hn8
  repeat walk_at "m.step"
  refine stc (by walk_at "m.D") rfl (by walk_at "m.mem") hoE (fun h9 tk9 oE2 hoE2 H9 => ?_) rfl rfl
  walk_at "m.up"
  repeat walk_at "m.step"
  refine w_needed (HA'.le (by omega)) Γ2 (by walk_at "m.D") hlaid gd fun f10 o10 kvs10 h10 tk10 D10 hI10 hk10 hm10 => ?_
  repeat walk_at "m.step"
  refine id_sorted hh D10 (.inr (.head _)) hI10 (by omega) fun r11 ys11 ks11 n11 h11 tk11 D11 hi11 hp11 hs11 => ?_
  repeat walk_at "m.step"
  refine l_sorted (by walk_at "m.D") (.inr (by walk_at "m.mem")) hi8 (by have := hi8.length; omega) fun r12 ys12 ks12 n12 h12 D12 hi12 hp12 hs12 => ?_
  repeat walk_at "m.step"
  refine l_ne D12 (.inr (by walk_at "m.mem")) (.inr (.head _)) hi11 hi12 (by have := HA'.units; show A'.units + 64 < 9900; omega) ?_
  have hnd10 : (kvs10.map (·.1)).Nodup := by obtain ⟨_, _, _, _, _, _, _, z⟩ := hI10; exact z
  rw [sorted_eq hp11 hp12 hs11 hs12 hnd10 hnd8 (fun x => (hm10 x).trans (hmem8 x).symm)]
  rw [show (!decide (ks12 = ks12)) = false by simp]
  repeat walk_at "m.step"
  have D12 := D12.sel (σ' := [(l8, listOf ys8.toArray n8), (L + 1 + 1, oE2), (L + 1, oD2)]) (by walk_at "m.sel")
  have hDs : DesignOK G2 d aD := hlaid.design
  have hrl := hrs.1
  have hw7 := gd.w7
  have m7 := gd.m7
  refine r_listcomp_to (cl := [(Str.ofString "needed", L + 2), (Str.ofString "design", L + 1)]) rfl rfl (by decide +kernel) rfl ?_
  repeat walk_at "m.step"
  refine r_comp_list (l := aR) (xs := rs.map Value.ref) hh D12 (.inl hgR) (by rw [List.length_map]; omega) (fun i ys => ys = (keptL d rs i).map Value.ref) rfl (fun i ys e => ?_) ?_ ?_ (by decide +kernel) rfl rfl
  · rw [e, List.length_map]; exact keptL_le
  · rintro i Gc C nD ys h tk v I oI acc hv rfl hGc D
    rw [List.getElem?_map] at hv
    obtain ⟨ra, hra, rfl⟩ := Option.map_eq_some_iff.mp hv
    obtain ⟨r, hri, hrow⟩ := hrs.get hra
    obtain ⟨x, t, u, b, t', v, more, nrow, ea, _, _⟩ := id hrow
    have hkm := gd.wk r (List.mem_of_getElem? hri)
    obtain ⟨p, hp⟩ : ∃ p, d.sigs[r.1]? = some p := ⟨d.sigs[r.1], by simp [hkm]⟩
    have ea := hGc _ _ ea
    have Γc : Gnd w Gc := Γ2.mono hGc
    have hmore := keptL_more hra hri
    refine comp_if ?_
    repeat walk_at "m.step"
    walk_at "m.rowat"
    repeat walk_at "m.step"
    refine w_plain (HA'.le (by omega)) Γc (by walk_at "m.D") (hDs.mono hGc) hp (by omega) fun h2 tk2 D2 => ?_
    have hnd : (r.1 : Int) ∈ ks8 ↔ Needed d r.1 := by
      rw [hmem8]
      exact ⟨fun ⟨k, e, z⟩ => by obtain rfl : r.1 = k := by omega
                                 exact z, fun z => ⟨_, rfl, z⟩⟩
    have yes : keepB d r = true → (keptL d rs i).map Value.ref ++ [Value.ref ra] = (keptL d rs (i + 1)).map Value.ref := fun e => by
      rw [hmore, if_pos e, List.map_append]; rfl
    have no : keepB d r = false → (keptL d rs i).map Value.ref = (keptL d rs (i + 1)).map Value.ref := fun e => by
      rw [hmore, e]; simp
    repeat walk_at "m.step"
    refine ite_b (fun e => ?_) (fun e => ?_)
    · obtain rfl : p = false := by simpa using e
      refine ite_t ?_
      repeat walk_at "m.step"
      exact ⟨_, _, rfl, D2, yes (by unfold keepB; rw [hp]; simp)⟩
    · obtain rfl : p = true := by simpa using e
      repeat walk_at "m.step"
      walk_at "m.rowat"
      repeat walk_at "m.step"
      refine l_in (by walk_at "m.D") (.inr (by walk_at "m.mem")) hi8 ?_
      repeat walk_at "m.step"
      rename Mem _ _ _ _ _ _ => D3
      refine ite_b (fun e => ?_) (fun e => ?_)
      · repeat walk_at "m.step"
        exact ⟨_, _, rfl, D3, yes (keepB_iff.mpr (.inr (hnd.mp (of_decide_eq_true e))))⟩
      · refine isTrue_or_nil ?_
        refine ite_f ?_
        refine ⟨_, _, rfl, D3, no ?_⟩
        refine Bool.eq_false_iff.mpr fun z => ?_
        rcases keepB_iff.mp z with z | z
        · exact z hp
        · exact of_decide_eq_false e (hnd.mpr z)
  · rintro acc nD ys h tk C mC rfl D hC hO
    refine comp_name' (y := Str.ofString "due") D hC hO (by walk_at "m.put") fun h' tk' D' => ?_
    rw [List.length_map, hrl] at D'
    repeat walk_at "m.step"
    refine cp_list (by walk_at "m.D") (.inl rfl) (.inl hgR) (by rw [List.length_map]; omega) fun r14 n14 h14 D14 => ?_
    repeat walk_at "m.step"
    rename Mem _ _ _ _ _ _ => D15
    refine wpAny_call (c_kept (HA'.le (by omega)) Γ2 D15.keep hlaid gd hgR hrs fun h16 tk16 l16 n16 kp16 hl16 hn16 => ?_)
    have D16 := D15.fresh (fun b o e => kp16 b o e (by simp)) hl16 hn16
    have hu : A'.units + 64 < cLine := by have := HA'.units; show A'.units + 64 < 9900; omega
    have hsub : ∀ x ∈ keptL d rs d.rows.length, RowRd G2 x := fun x m => by
      unfold keptL at m
      obtain ⟨q, hq, rfl⟩ := List.mem_map.mp m
      exact hrd _ (List.of_mem_zip (List.mem_of_mem_take (List.mem_filter.mp hq).1)).1
    repeat walk_at "m.step"
    refine l_eq_rows hu D16 (.inr (.head _)) (.inr (by walk_at "m.mem")) hsub ?_
    repeat walk_at "m.step"
    refine l_eq_rows hu D16 (.inl hgR) (.inr (by walk_at "m.mem")) hrd ?_
    repeat walk_at "m.step"
    exact hR _ _ (D16.kept fun a o e _ => kg2 a o e)
end Mine
theorem PySem.Challenge.cw_pq0459_01_holds : PySem.Challenge.rw_pq0459_01.Holds := by
  w_on
  refine holds_law (by kernel_rfl) fun said => ?_
  refine holds_open (q := Mine.vW) (loose := []) (Xt := fun s => xlAt Mine.vW [] s && recOk [] s) (XP := XL Mine.vW []) (Yf := Hook.obs Mine.hH) (Ya := Hook.val Mine.hH) (YP := Hook.says Mine.hH) (N := 4336) Mine.left (Hook.of Mine.hH) (Hook.keeps Mine.hH) (fun s e => xl_of s (Bool.and_eq_true_iff.mp e).1) XL.keeps (by rfl) (by rfl) (by rfl) (fun s e => recFacts_of (Bool.and_eq_true_iff.mp e).2) (by rfl) (by first | assumption | decide +kernel) (by decide +kernel) ⟨rfl, rfl, rfl, rfl, rfl, by decide +kernel⟩ ?hw ?hc
  case hw => w_witness2
  case hc =>
    intro w s₀ s₁ mg mb G Y fa o pm cd doc dV kV ho hd hcd hD hmg hg args vals as hpre hlay hrd hwl hlo
    have KX := kIn_of Y
    refine Ground.open G ?_
    intro T B D TE TW
    wrow_args hpre hlay hrd hwl hlo
    show wpAny _ _ (call _ _) _ _ _
    have e9 := mg_of (n := Str.ofString "law") (v := Value.ref 337) KX (Top.g T) (by kernel_rfl)
    have e8 := hmg.symm.trans e9
    cases e8
    clear hd hcd hD ho
    rename Heap.IsList _ _ _ => hLL
    rename IntsAre _ _ => hII
    obtain ⟨ol, hol, hcl, hdl⟩ := hLL
    refine wpAny_call ?_
    show codeAny _ _ _ _ (Mine.S s₁ s₁.heap s₁.toks)
    refine Mine.c_law ⟨rfl, by decide, by decide⟩ ⟨_, rfl⟩ (Mine.gnd_of_top KX T (T.seer (by decide +kernel))) (fun _ _ e => e) hol hcl hdl hII (by have := hII.length; omega) fun h' tk' kp => ?_
    refine GoodW.toG (c := PySem.Challenge.rw_pq0459_01.row.claim) ?_
    exact ⟨.inl ⟨.bool true, .bool true, [], rfl, (raisesW_false (by wrow_none_raised)), .bool _, (by wrow_post), fun _ => ⟨List.nodup_nil, fun _ h => nomatch h⟩⟩, fun b o e => kp b o e (by simp), rfl, hg⟩
