import PyProof.Rows.All
import Wide.All
import OpenK.AllK
import Wide.FinOn
import PySem.Challenge.RW_xm0175_01
set_option autoImplicit false
set_option Elab.async false
set_option maxRecDepth 100000
set_option genSizeOf false
set_option bootstrap.genMatcherCode false
set_option backward.eqns.nonrecursive false
set_option linter.unusedVariables false
namespace Mine
open PySem PySem.W PyProof.Rows PySem.Calls
@[irreducible] noncomputable def tab : List Str := [
 Str.ofString "*",
 Str.ofString "0",
 Str.ofString "1",
 Str.ofString "10",
 Str.ofString "11",
 Str.ofString "12",
 Str.ofString "2",
 Str.ofString "3",
 Str.ofString "4",
 Str.ofString "5",
 Str.ofString "6",
 Str.ofString "7",
 Str.ofString "8",
 Str.ofString "9",
 Str.ofString "BEYOND",
 Str.ofString "Code",
 Str.ofString "EscapeFlow",
 Str.ofString "REFERRING",
 Str.ofString "Summary",
 Str.ofString "T",
 Str.ofString "UNKNOWN",
 Str.ofString "__init__",
 Str.ofString "__name__",
 Str.ofString "_law_add",
 Str.ofString "_law_all",
 Str.ofString "_law_book",
 Str.ofString "_law_deeds",
 Str.ofString "_law_do",
 Str.ofString "_law_done",
 Str.ofString "_law_flow",
 Str.ofString "_law_into",
 Str.ofString "_law_made",
 Str.ofString "_law_next",
 Str.ofString "_law_one",
 Str.ofString "_law_operands_right",
 Str.ofString "_law_out",
 Str.ofString "_law_pool",
 Str.ofString "_law_pot",
 Str.ofString "_law_put",
 Str.ofString "_law_read",
 Str.ofString "_law_reg",
 Str.ofString "_law_right",
 Str.ofString "_law_row",
 Str.ofString "_law_scoop",
 Str.ofString "_law_size",
 Str.ofString "_law_stands",
 Str.ofString "_law_take",
 Str.ofString "_wall",
 Str.ofString "a",
 Str.ofString "append",
 Str.ofString "array",
 Str.ofString "assert",
 Str.ofString "at",
 Str.ofString "b",
 Str.ofString "beyond",
 Str.ofString "block",
 Str.ofString "blocks",
 Str.ofString "book",
 Str.ofString "bound",
 Str.ofString "c",
 Str.ofString "call",
 Str.ofString "called",
 Str.ofString "captured",
 Str.ofString "case",
 Str.ofString "cell",
 Str.ofString "chan",
 Str.ofString "chancore.code",
 Str.ofString "chancore.collector",
 Str.ofString "chancore.escape",
 Str.ofString "close_over",
 Str.ofString "closure",
 Str.ofString "code",
 Str.ofString "const",
 Str.ofString "convert",
 Str.ofString "copy",
 Str.ofString "cut",
 Str.ofString "d",
 Str.ofString "deed",
 Str.ofString "deeds",
 Str.ofString "defer",
 Str.ofString "due",
 Str.ofString "elem",
 Str.ofString "elemptr",
 Str.ofString "end",
 Str.ofString "enumerate",
 Str.ofString "extend",
 Str.ofString "face",
 Str.ofString "fieldptr",
 Str.ofString "flow",
 Str.ofString "fn",
 Str.ofString "follow",
 Str.ofString "found",
 Str.ofString "func",
 Str.ofString "get",
 Str.ofString "give",
 Str.ofString "go",
 Str.ofString "go_through",
 Str.ofString "gone",
 Str.ofString "grown",
 Str.ofString "half",
 Str.ofString "handed",
 Str.ofString "held",
 Str.ofString "here",
 Str.ofString "inner",
 Str.ofString "inside",
 Str.ofString "instruction",
 Str.ofString "instructions",
 Str.ofString "int",
 Str.ofString "is_new",
 Str.ofString "isinstance",
 Str.ofString "iter",
 Str.ofString "jump",
 Str.ofString "k",
 Str.ofString "kept",
 Str.ofString "key",
 Str.ofString "kind",
 Str.ofString "known",
 Str.ofString "law",
 Str.ofString "law_xm0175_01",
 Str.ofString "law_xm0175_02",
 Str.ofString "leak",
 Str.ofString "leaks",
 Str.ofString "leave",
 Str.ofString "len",
 Str.ofString "list",
 Str.ofString "load",
 Str.ofString "loaded",
 Str.ofString "look",
 Str.ofString "look_at_call",
 Str.ofString "look_at_making",
 Str.ofString "look_at_putting",
 Str.ofString "look_at_reading",
 Str.ofString "lost",
 Str.ofString "m.f",
 Str.ofString "m.g",
 Str.ofString "m.h",
 Str.ofString "made",
 Str.ofString "make",
 Str.ofString "makechan",
 Str.ofString "makemap",
 Str.ofString "makeslice",
 Str.ofString "many",
 Str.ofString "map",
 Str.ofString "mapget",
 Str.ofString "mapset",
 Str.ofString "max",
 Str.ofString "more",
 Str.ofString "most",
 Str.ofString "move",
 Str.ofString "n",
 Str.ofString "new",
 Str.ofString "next",
 Str.ofString "note",
 Str.ofString "number",
 Str.ofString "objects_within",
 Str.ofString "old",
 Str.ofString "one",
 Str.ofString "op",
 Str.ofString "operand",
 Str.ofString "operands",
 Str.ofString "other",
 Str.ofString "out",
 Str.ofString "outer",
 Str.ofString "panic",
 Str.ofString "params",
 Str.ofString "part",
 Str.ofString "pop",
 Str.ofString "pot",
 Str.ofString "ptr",
 Str.ofString "put",
 Str.ofString "put_out",
 Str.ofString "range",
 Str.ofString "reached",
 Str.ofString "recover",
 Str.ofString "recovery",
 Str.ofString "recv",
 Str.ofString "reg",
 Str.ofString "register",
 Str.ofString "registers",
 Str.ofString "results",
 Str.ofString "return",
 Str.ofString "row",
 Str.ofString "rows",
 Str.ofString "s",
 Str.ofString "s0",
 Str.ofString "s1",
 Str.ofString "s10",
 Str.ofString "s11",
 Str.ofString "s12",
 Str.ofString "s2",
 Str.ofString "s3",
 Str.ofString "s4",
 Str.ofString "s5",
 Str.ofString "s6",
 Str.ofString "s7",
 Str.ofString "s8",
 Str.ofString "s9",
 Str.ofString "script",
 Str.ofString "select",
 Str.ofString "self",
 Str.ofString "send",
 Str.ofString "setdefault",
 Str.ofString "site",
 Str.ofString "sites",
 Str.ofString "size",
 Str.ofString "slice",
 Str.ofString "some",
 Str.ofString "sorted",
 Str.ofString "source",
 Str.ofString "store",
 Str.ofString "str",
 Str.ofString "struct",
 Str.ofString "sum",
 Str.ofString "summaries",
 Str.ofString "summary",
 Str.ofString "table",
 Str.ofString "tables",
 Str.ofString "target",
 Str.ofString "targets",
 Str.ofString "terminator",
 Str.ofString "things",
 Str.ofString "token",
 Str.ofString "tokens",
 Str.ofString "tokens_of",
 Str.ofString "tokens_of_all",
 Str.ofString "told",
 Str.ofString "told_by",
 Str.ofString "top",
 Str.ofString "tuple",
 Str.ofString "turn",
 Str.ofString "value",
 Str.ofString "values",
 Str.ofString "waiting",
 Str.ofString "word"]
noncomputable def tabN : Nat := 234
theorem tab_len : tab.length = tabN := by decide +kernel
theorem tab_nodup : tab.Nodup := by decide +kernel
end Mine
namespace Mine
inductive E1 {α0 : Type} (p : α0 → Prop) : Prop where
 | mk (a0 : α0) (h : p a0)
inductive E2 {α0 α1 : Type} (p : α0 → α1 → Prop) : Prop where
 | mk (a0 : α0) (a1 : α1) (h : p a0 a1) : E2 p
inductive E3 {α0 α1 α2 : Type} (p : α0 → α1 → α2 → Prop) : Prop where
 | mk (a0 : α0) (a1 : α1) (a2 : α2) (h : p a0 a1 a2) : E3 p
inductive E4 {α0 α1 α2 α3 : Type} (p : α0 → α1 → α2 → α3 → Prop) : Prop where
 | mk (a0 : α0) (a1 : α1) (a2 : α2) (a3 : α3) (h : p a0 a1 a2 a3) : E4 p
inductive E5 {α0 α1 α2 α3 α4 : Type} (p : α0 → α1 → α2 → α3 → α4 → Prop) : Prop where
 | mk (a0 : α0) (a1 : α1) (a2 : α2) (a3 : α3) (a4 : α4) (h : p a0 a1 a2 a3 a4) : E5 p
inductive E6 {α0 α1 α2 α3 α4 α5 : Type} (p : α0 → α1 → α2 → α3 → α4 → α5 → Prop) : Prop where
 | mk (a0 : α0) (a1 : α1) (a2 : α2) (a3 : α3) (a4 : α4) (a5 : α5) (h : p a0 a1 a2 a3 a4 a5) : E6 p
inductive E9 {α0 α1 α2 α3 α4 α5 α6 α7 α8 : Type} (p : α0 → α1 → α2 → α3 → α4 → α5 → α6 → α7 → α8 → Prop) : Prop where
 | mk (a0 : α0) (a1 : α1) (a2 : α2) (a3 : α3) (a4 : α4) (a5 : α5) (a6 : α6) (a7 : α7) (a8 : α8) (h : p a0 a1 a2 a3 a4 a5 a6 a7 a8) : E9 p
structure N3 (p0 p1 p2 : Prop) : Prop where
 (x1 : p0) (x2 : p1) (x3 : p2)
structure N4 (p0 p1 p2 p3 : Prop) : Prop where
 (x1 : p0) (x2 : p1) (x3 : p2) (x4 : p3)
structure N5 (p0 p1 p2 p3 p4 : Prop) : Prop where
 (x1 : p0) (x2 : p1) (x3 : p2) (x4 : p3) (x5 : p4)
structure N6 (p0 p1 p2 p3 p4 p5 : Prop) : Prop where
 (x1 : p0) (x2 : p1) (x3 : p2) (x4 : p3) (x5 : p4) (x6 : p5)
structure N7 (p0 p1 p2 p3 p4 p5 p6 : Prop) : Prop where
 (x1 : p0) (x2 : p1) (x3 : p2) (x4 : p3) (x5 : p4) (x6 : p5) (x7 : p6)
structure N8 (p0 p1 p2 p3 p4 p5 p6 p7 : Prop) : Prop where
 (x1 : p0) (x2 : p1) (x3 : p2) (x4 : p3) (x5 : p4) (x6 : p5) (x7 : p6) (x8 : p7)
structure N9 (p0 p1 p2 p3 p4 p5 p6 p7 p8 : Prop) : Prop where
 (x1 : p0) (x2 : p1) (x3 : p2) (x4 : p3) (x5 : p4) (x6 : p5) (x7 : p6) (x8 : p7) (x9 : p8)
inductive N13 (p0 p1 p2 p3 p4 p5 p6 p7 p8 p9 p10 p11 p12 : Prop) : Prop where
 | mk (x1 : p0) (x2 : p1) (x3 : p2) (x4 : p3) (x5 : p4) (x6 : p5) (x7 : p6) (x8 : p7) (x9 : p8) (x10 : p9) (x11 : p10) (x12 : p11) (x13 : p12)
inductive N16 (p0 p1 p2 p3 p4 p5 p6 p7 p8 p9 p10 p11 p12 p13 p14 p15 : Prop) : Prop where
 | mk (x1 : p0) (x2 : p1) (x3 : p2) (x4 : p3) (x5 : p4) (x6 : p5) (x7 : p6) (x8 : p7) (x9 : p8) (x10 : p9) (x11 : p10) (x12 : p11) (x13 : p12) (x14 : p13) (x15 : p14) (x16 : p15)
theorem ff {p : Prop} (h : false = true) : p := Bool.noConfusion h
theorem and2 {a b : Bool} (h : (a && b) = true) : a = true ∧ b = true := match a, b, h with
 | true, true, _ => ⟨rfl, rfl⟩
theorem and3 {a b c : Bool} (h : (a && b && c) = true) : N3 (a = true) (b = true) (c = true) := ⟨(and2 (and2 h).1).1, (and2 (and2 h).1).2, (and2 h).2⟩
theorem and4 {a b c d : Bool} (h : (a && b && c && d) = true) : N4 (a = true) (b = true) (c = true) (d = true) := match and3 (and2 h).1 with
 | ⟨x, y, z⟩ => ⟨x, y, z, (and2 h).2⟩
theorem and5 {a b c d e : Bool} (h : (a && b && c && d && e) = true) : N5 (a = true) (b = true) (c = true) (d = true) (e = true) := match and4 (and2 h).1 with
 | ⟨x, y, z, u⟩ => ⟨x, y, z, u, (and2 h).2⟩
theorem and6 {a b c d e f : Bool} (h : (a && b && c && d && e && f) = true) : N6 (a = true) (b = true) (c = true) (d = true) (e = true) (f = true) := match and5 (and2 h).1 with
 | ⟨x, y, z, u, v⟩ => ⟨x, y, z, u, v, (and2 h).2⟩
theorem nott' {a b : Nat} (h : (a != b) = false) : (a == b) = true := by cases q : a == b <;> first | rfl | (rw [bne, q] at h; exact Bool.noConfusion h)
theorem nott {a : Bool} (h : (!a) = true) : a = false := match a, h with
 | false, _ => rfl
end Mine
namespace Mine
open PySem PySem.W PyProof.Rows PySem.Calls
noncomputable def tx (i : Nat) : Str := tab.getD i (Str.ofString "")
theorem tab_inj {i j : Nat} {x : Str} (h : tab[i]? = some x) (h' : tab[j]? = some x) : i = j :=
 (List.getElem?_inj (List.getElem?_eq_some_iff.mp h).1 tab_nodup).mp (h.trans h'.symm)
inductive MV where
 | none | bool (b : Bool) | int (i : Int) | str (i : Nat) | bytes (b : Array UInt8)
 | tup (xs : List MV) | loc (n : Nat) | inst (C : Addr) (n : Nat) | raw (v : Value)
inductive MO where
 | list (xs : List MV)
 | dict (ep : Nat) (es : List (MV × MV))
 | ns (as : List (Nat × MV))
noncomputable abbrev MH := List MO
structure Cx where
 prog : Program
 w : World
 K : Frag
 h₀ : Heap
 p : Program
 loose : List Str
 mg : Str → Option Value
 mb : Str → Option Value
 inK : K.In h₀
 top : TopRead p loose mg mb h₀
mutual
noncomputable def VR (ι : List Addr) (h : Heap) : MV → Value → Prop
 | .none, v => v = .none
 | .bool b, v => v = .bool b
 | .int i, v => ∃ tk, v = .int i tk
 | .str i, v => ∃ x tk, tab[i]? = some x ∧ v = .str x tk
 | .bytes b, v => ∃ tk, v = .bytes b tk
 | .tup xs, v => ∃ a items n, v = .ref a ∧ h.get? a = some ({ cls := .type "tuple", data := .seq items n } : Obj) ∧ VRs ι h xs items.toList
 | .loc n, v => ∃ a, v = .ref a ∧ ι[n]? = some a
 | .inst C n, v => ∃ x dx, v = .ref x ∧ h.get? x = some (instObj C dx) ∧ ι[n]? = some dx
 | .raw r, v => v = r
noncomputable def VRs (ι : List Addr) (h : Heap) : List MV → List Value → Prop
 | [], vs => vs = []
 | x :: xs, vs => ∃ v r, vs = v :: r ∧ VR ι h x v ∧ VRs ι h xs r
end
theorem VRs.nil {ι : List Addr} {h : Heap} : VRs ι h [] [] := by first | exact rfl | exact ⟨_, rfl⟩
theorem VRs.cons {ι : List Addr} {h : Heap} {x : MV} {xs : List MV} {v : Value} {vs : List Value} (a : VR ι h x v) (b : VRs ι h xs vs) : VRs ι h (x :: xs) (v :: vs) := ⟨v, vs, rfl, a, b⟩
theorem VRs.length {ι : List Addr} {h : Heap} : ∀ {xs : List MV} {vs : List Value}, VRs ι h xs vs → vs.length = xs.length
 | [], vs, e => by have e : _ = _ := e; subst e; rfl
 | _ :: _, vs, e => by obtain ⟨v, r, rfl, _, e⟩ := e; simp [e.length]
theorem VRs.get {ι : List Addr} {h : Heap} : ∀ {xs : List MV} {vs : List Value} {i : Nat} {x : MV}, VRs ι h xs vs → xs[i]? = some x → ∃ v, vs[i]? = some v ∧ VR ι h x v
 | [], _, _, _, _, hx => by simp at hx
 | y :: ys, vs, i, x, e, hx => by
  obtain ⟨v, r, rfl, e1, e2⟩ := e
  cases i with
  | zero => simp at hx; subst hx; exact ⟨v, rfl, e1⟩
  | succ i => simp at hx; simpa using e2.get hx
theorem VRs.append {ι : List Addr} {h : Heap} : ∀ {xs ys : List MV} {vs ws : List Value}, VRs ι h xs vs → VRs ι h ys ws → VRs ι h (xs ++ ys) (vs ++ ws)
 | [], _, vs, _, e, e' => by have e : _ = _ := e; subst e; exact e'
 | _ :: _, _, vs, _, e, e' => by obtain ⟨v, r, rfl, e1, e2⟩ := e; exact .cons e1 (e2.append e')
theorem VRs.take {ι : List Addr} {h : Heap} : ∀ {xs : List MV} {vs : List Value} (k : Nat), VRs ι h xs vs → VRs ι h (xs.take k) (vs.take k)
 | [], vs, k, e => by have e : _ = _ := e; subst e; cases k <;> exact rfl
 | _ :: _, vs, k, e => by
  obtain ⟨v, r, rfl, e1, e2⟩ := e
  cases k with
  | zero => exact rfl
  | succ k => exact .cons e1 (e2.take k)
theorem VRs.reverse {ι : List Addr} {h : Heap} : ∀ {xs : List MV} {vs : List Value}, VRs ι h xs vs → VRs ι h xs.reverse vs.reverse
 | [], vs, e => by have e : _ = _ := e; subst e; exact rfl
 | _ :: _, vs, e => by
  obtain ⟨v, r, rfl, e1, e2⟩ := e
  rw [List.reverse_cons, List.reverse_cons]
  exact e2.reverse.append (.cons e1 .nil)
theorem VRs.iff {ι : List Addr} {h : Heap} {xs : List MV} {vs : List Value} (hl : vs.length = xs.length) (hx : ∀ (i : Nat) (x : MV) (v : Value), xs[i]? = some x → vs[i]? = some v → VR ι h x v) : VRs ι h xs vs := by
 induction xs generalizing vs with
 | nil => cases vs with | nil => exact .nil | cons _ _ => simp at hl
 | cons x xs ih =>
  cases vs with
  | nil => simp at hl
  | cons v vs => exact .cons (hx 0 x v rfl rfl) (ih (by simpa using hl) fun i y u h1 h2 => hx (i + 1) y u (by simpa using h1) (by simpa using h2))
noncomputable def no {α : Type} (_ : α) : Bool := false
noncomputable def MV.on (f0 : Bool) (f1 : Bool → Bool) (f2 : Int → Bool) (f3 : Nat → Bool) (f4 : Array UInt8 → Bool) (f5 : List MV → Bool) (f6 : Nat → Bool) (f7 : Addr → Nat → Bool) (f8 : Value → Bool) (v : MV) : Bool :=
 MV.casesOn v f0 f1 f2 f3 f4 f5 f6 f7 f8
mutual
noncomputable def MV.beq : MV → MV → Bool
 | .none, y => y.on true no no no no no no (fun _ => no) no
 | .bool a, y => y.on false (a == ·) no no no no no (fun _ => no) no
 | .int a, y => y.on false no (fun b => decide (a = b)) no no no no (fun _ => no) no
 | .str a, y => y.on false no no (Nat.beq a) no no no (fun _ => no) no
 | .bytes a, y => y.on false no no no (fun b => decide (a = b)) no no (fun _ => no) no
 | .tup a, y => y.on false no no no no (fun b => MV.beqs a b) no (fun _ => no) no
 | .loc a, y => y.on false no no no no no (Nat.beq a) (fun _ => no) no
 | .inst a c, y => y.on false no no no no no no (fun b d => Nat.beq a b && Nat.beq c d) no
 | .raw a, y => y.on false no no no no no no (fun _ => no) fun b => decide (a = b)
noncomputable def MV.beqs : List MV → List MV → Bool
 | [], ys => ys.isEmpty
 | a :: as, ys => match ys with
  | [] => false
  | b :: bs => MV.beq a b && MV.beqs as bs
end
mutual
theorem MV.beq_refl : ∀ a : MV, MV.beq a a = true
 | .none => rfl
 | .bool a => beq_self_eq_true a
 | .int _ => decide_eq_true rfl
 | .str a => Nat.beq_refl a
 | .bytes _ => decide_eq_true rfl
 | .tup a => MV.beqs_refl a
 | .loc a => Nat.beq_refl a
 | .inst a b => (congr (congrArg and (Nat.beq_refl a)) (Nat.beq_refl b) : _ = (true && true))
 | .raw _ => decide_eq_true rfl
theorem MV.beqs_refl : ∀ a : List MV, MV.beqs a a = true
 | [] => rfl
 | a :: as => (congr (congrArg and (MV.beq_refl a)) (MV.beqs_refl as) : _ = (true && true))
end
mutual
theorem MV.eq_of_beq : ∀ a b : MV, MV.beq a b = true → a = b
 | .none, b, h => by cases b <;> first | exact ff h | rfl
 | .bool _, b, h => by cases b <;> first | exact ff h | exact congrArg _ (LawfulBEq.eq_of_beq h)
 | .int _, b, h => by cases b <;> first | exact ff h | exact congrArg _ (of_decide_eq_true h)
 | .str _, b, h => by cases b <;> first | exact ff h | exact congrArg _ (Nat.eq_of_beq_eq_true h)
 | .bytes _, b, h => by cases b <;> first | exact ff h | exact congrArg _ (of_decide_eq_true h)
 | .tup a, b, h => by cases b <;> first | exact ff h | exact congrArg _ (MV.eq_of_beqs a _ h)
 | .loc _, b, h => by cases b <;> first | exact ff h | exact congrArg _ (Nat.eq_of_beq_eq_true h)
 | .inst _ _, b, h => by cases b <;> first | exact ff h | exact congr (congrArg _ (Nat.eq_of_beq_eq_true (and2 h).1)) (Nat.eq_of_beq_eq_true (and2 h).2)
 | .raw _, b, h => by cases b <;> first | exact ff h | exact congrArg _ (of_decide_eq_true h)
theorem MV.eq_of_beqs : ∀ a b : List MV, MV.beqs a b = true → a = b
 | [], b, h => by cases b <;> first | exact ff h | rfl
 | a :: as, b, h => by cases b <;> first | exact ff h | exact congr (congrArg _ (MV.eq_of_beq a _ (and2 h).1)) (MV.eq_of_beqs as _ (and2 h).2)
end
theorem MV.beq_iff {a b : MV} : MV.beq a b = true ↔ a = b := ⟨MV.eq_of_beq a b, fun h => h ▸ MV.beq_refl a⟩
theorem MV.beq_false {a b : MV} : MV.beq a b = false ↔ a ≠ b := by rw [← Bool.not_eq_true, ne_eq, MV.beq_iff]
noncomputable def dget (es : List (MV × MV)) (k : MV) : Option MV := (es.find? fun e => e.1.beq k).map (·.2)
noncomputable def dhas (es : List (MV × MV)) (k : MV) : Bool := es.any fun e => e.1.beq k
noncomputable def dput (es : List (MV × MV)) (k v : MV) : List (MV × MV) := es.map fun e => if e.1.beq k then (e.1, v) else e
noncomputable def alook : List (Nat × MV) → Nat → Option MV
 | [], _ => none
 | (j, u) :: r, i => if Nat.beq j i then some u else alook r i
noncomputable def aset : List (Nat × MV) → Nat → MV → List (Nat × MV)
 | [], i, v => [(i, v)]
 | (j, u) :: r, i, v => if Nat.beq j i then (j, v) :: r else (j, u) :: aset r i v
theorem alook_aset_same : ∀ (as : List (Nat × MV)) (i : Nat) (v : MV), alook (aset as i v) i = some v
 | [], i, v => by simp [aset, alook]
 | (j, u) :: r, i, v => by
  simp only [aset]
  split
  ·rename_i h; simp [alook, h]
  ·rename_i h; simp only [alook, h, if_false, alook_aset_same r i v]; simp
theorem alook_aset_ne : ∀ (as : List (Nat × MV)) {i j : Nat} (v : MV), j ≠ i → alook (aset as i v) j = alook as j
 | [], i, j, v, h => by simp [aset, alook, Ne.symm h]
 | (k, u) :: r, i, j, v, h => by
  simp only [aset]
  split
  ·rename_i hk
   have hk : k = i := by simpa using hk
   subst hk
   have : Nat.beq k j = false := Bool.eq_false_iff.mpr fun q => h (Nat.eq_of_beq_eq_true q).symm
   simp [alook, this]
  ·simp only [alook, alook_aset_ne r v h]
theorem look_ne {as : List (Nat × MV)} {i j : Nat} {v : MV} {u : Option MV} (h : alook as j = u) (hne : j ≠ i) : alook (aset as i v) j = u := (alook_aset_ne as v hne).trans h
theorem lt64 {n m : Nat} (h : Nat.ble n m = true) : n ≤ m := Nat.le_of_ble_eq_true h
theorem all0 {α : Type} {P : List α → Prop} (h : P []) (l : List α) (hl : l.length = 0) : P l := List.length_eq_zero_iff.mp hl ▸ h
theorem allS {α : Type} {P : List α → Prop} {k : Nat} (h : ∀ a l, l.length = k → P (a :: l)) (l : List α) : l.length = k + 1 → P l := match l with
 | [] => fun e => Nat.noConfusion e
 | a :: l => fun e => h a l (Nat.succ.inj e)
theorem all1 {α : Type} {P : List α → Prop} (h : ∀ a, P [a]) (l : List α) : l.length = 1 → P l := allS (fun a => all0 (h a)) l
theorem all2 {α : Type} {P : List α → Prop} (h : ∀ a b, P [a, b]) (l : List α) : l.length = 2 → P l := allS (fun a => all1 (h a)) l
theorem all3 {α : Type} {P : List α → Prop} (h : ∀ a b c, P [a, b, c]) (l : List α) : l.length = 3 → P l := allS (fun a => all2 (h a)) l
theorem all4 {α : Type} {P : List α → Prop} (h : ∀ a b c d, P [a, b, c, d]) (l : List α) : l.length = 4 → P l := allS (fun a => all3 (h a)) l
theorem all5 {α : Type} {P : List α → Prop} (h : ∀ a b c d e, P [a, b, c, d, e]) (l : List α) : l.length = 5 → P l := allS (fun a => all4 (h a)) l
structure Step (D ι : List Addr) (h : Heap) (ι' : List Addr) (h' : Heap) : Prop where
 pre : ∃ r, ι' = ι ++ r ∧ ∀ a ∈ r, h.objs.size ≤ a
 keep : ∀ b o, b ∉ ι → b ∉ D → h.get? b = some o → h'.get? b = some o
 size : h.objs.size ≤ h'.objs.size
noncomputable def Imm (o : Obj) : Prop := (∃ items n, o = { cls := .type "tuple", data := .seq items n }) ∨ ∃ C d, o = instObj C d
noncomputable def DObj (o : Obj) : Prop := (∃ es ep, o.data = .dict es ep) ∨ (∃ v, o.data = .cell v) ∨ ∃ vs, o.data = .fields vs
theorem Imm.notD {o : Obj} (x : Imm o) : ¬ DObj o := by
 rintro (⟨_, _, y⟩ | ⟨_, y⟩ | ⟨_, y⟩) <;> rcases x with ⟨_, _, rfl⟩ | ⟨_, _, rfl⟩ <;> simp at y
theorem Imm.notList {o : Obj} (x : Imm o) : o.cls ≠ .type "list" := by
 rcases x with ⟨_, _, rfl⟩ | ⟨_, _, rfl⟩ <;> simp
theorem Imm.notDict {o : Obj} (x : Imm o) : o.cls ≠ .type "dict" := by
 rcases x with ⟨_, _, rfl⟩ | ⟨_, _, rfl⟩ <;> simp
mutual
theorem VR.map {ι ι' : List Addr} {h h' : Heap} (hi : ∀ (n : Nat) (a : Addr), ι[n]? = some a → ι'[n]? = some a) (hk : ∀ b o, Imm o → h.get? b = some o → h'.get? b = some o) :
  ∀ {v : MV} {rv : Value}, VR ι h v rv → VR ι' h' v rv
 | .none, _, e => e
 | .bool _, _, e => e
 | .int _, _, e => e
 | .str _, _, e => e
 | .bytes _, _, e => e
 | .raw _, _, e => e
 | .loc _, _, ⟨a, e, e'⟩ => ⟨a, e, hi _ _ e'⟩
 | .inst _ _, _, ⟨x, dx, e, e1, e2⟩ => ⟨x, dx, e, hk _ _ (.inr ⟨_, _, rfl⟩) e1, hi _ _ e2⟩
 | .tup _, _, ⟨a, items, n, e, e1, e4⟩ => ⟨a, items, n, e, hk _ _ (.inl ⟨_, _, rfl⟩) e1, VRs.map hi hk e4⟩
theorem VRs.map {ι ι' : List Addr} {h h' : Heap} (hi : ∀ (n : Nat) (a : Addr), ι[n]? = some a → ι'[n]? = some a) (hk : ∀ b o, Imm o → h.get? b = some o → h'.get? b = some o) :
  ∀ {xs : List MV} {vs : List Value}, VRs ι h xs vs → VRs ι' h' xs vs
 | [], _, e => e
 | _ :: _, _, ⟨v, r, e, e1, e2⟩ => ⟨v, r, e, VR.map hi hk e1, VRs.map hi hk e2⟩
end
noncomputable abbrev Atom := Int ⊕ Str
noncomputable def isAtom : Atom → Value → Bool
 | .inl i, v => Value.isInt i v
 | .inr x, v => Value.isStrOf x v
theorem isAtom_inj (v : Value) (a b : Atom) (ha : isAtom a v = true) (hb : isAtom b v = true) : a = b := by
 cases a <;> cases b <;> simp only [isAtom] at ha hb
 ·rw [Value.isInt_inj v _ _ ha hb]
 ·obtain ⟨t, rfl⟩ := Value.isInt_shape ha; simp [Value.isStrOf] at hb
 ·obtain ⟨t, rfl⟩ := Value.isStrOf_shape ha; simp [Value.isInt] at hb
 ·rw [Value.isStrOf_inj v _ _ ha hb]
noncomputable def hashAtom (w : World) : Atom → Int
 | .inl i => hashInt i
 | .inr x => hashStr w x
section
variable {prog : Program} {w : World} {A : Around} {E : Value → Shared → Prop} {s : Shared}
theorem eqBool_int_str {a : Int} {b : Str} {t u : Tok} {Q : Bool → Shared → Prop} (h : Q false s) :
  wpAny (model prog w) A (eqBool (.int a t) (.str b u)) Q E s := by
 unfold eqBool
 refine wpAny_holding ?_
 rw [if_neg (by intro e; have := eq_of_beq e; cases this)]
 exact wpAny_bind (EqMixed.eq_int_str (wpAny_truthy_bool h))
theorem eqBool_str_int {a : Int} {b : Str} {t u : Tok} {Q : Bool → Shared → Prop} (h : Q false s) :
  wpAny (model prog w) A (eqBool (.str b u) (.int a t)) Q E s := by
 unfold eqBool
 refine wpAny_holding ?_
 rw [if_neg (by intro e; have := eq_of_beq e; cases this)]
 exact wpAny_bind (EqMixed.eq_str_int (wpAny_truthy_bool h))
end
noncomputable def atomKind (prog : Program) (w : World) : PySem.KeyKind prog w Atom where
 is := isAtom
 hash := hashAtom w
 inj := isAtom_inj
 byValue := fun k v h => by
  cases k
  ·obtain ⟨t, rfl⟩ := Value.isInt_shape h; rfl
  ·obtain ⟨t, rfl⟩ := Value.isStrOf_shape h; rfl
 pyHash := fun {A E s k v Q} hv h => by
  cases k
  ·obtain ⟨t, rfl⟩ := Value.isInt_shape hv; exact wpAny_pyHash_int h
  ·obtain ⟨t, rfl⟩ := Value.isStrOf_shape hv; exact wpAny_pyHash_str h
 eqBool := fun {A E s a b u v Q} hu hv h => by
  cases a with
  | inl a =>
   obtain ⟨t, rfl⟩ := Value.isInt_shape hu
   cases b with
   | inl b =>
    obtain ⟨t', rfl⟩ := Value.isInt_shape hv
    refine wpAny_eqBool_int ?_
    have : decide (Sum.inl a = (Sum.inl b : Atom)) = (a == b) := by by_cases e : a = b <;> simp [e]
    rwa [this] at h
   | inr b =>
    obtain ⟨t', rfl⟩ := Value.isStrOf_shape hv
    exact eqBool_int_str (by simpa using h)
  | inr a =>
   obtain ⟨t, rfl⟩ := Value.isStrOf_shape hu
   cases b with
   | inl b =>
    obtain ⟨t', rfl⟩ := Value.isInt_shape hv
    exact eqBool_str_int (by simpa using h)
   | inr b =>
    obtain ⟨t', rfl⟩ := Value.isStrOf_shape hv
    refine wpAny_eqBool_str ?_
    have : decide (Sum.inr a = (Sum.inr b : Atom)) = decide (a = b) := by by_cases e : a = b <;> simp [e]
    rwa [this] at h
 «strs» := fun k x t v h => by
  cases k with
  | inl i => simp [isAtom, Value.isInt] at h
  | inr y =>
   simp only [isAtom] at h ⊢
   obtain ⟨u, hu⟩ := Value.isStrOf_shape h
   injection hu with hx
   subst hx
   cases v <;> rfl
noncomputable def atomOf : MV → Option Atom
 | .int i => some (.inl i)
 | .str i => (tab[i]?).map .inr
 | _ => none
noncomputable def MV.isAtom (v : MV) : Prop := ∃ a, atomOf v = some a
noncomputable def MV.isFlat (v : MV) : Prop := ∃ xs, v = .tup xs ∧ ∀ x ∈ xs, x.isAtom
noncomputable def MV.isKey (v : MV) : Prop := v.isAtom ∨ v.isFlat
theorem atomOf_inj {v u : MV} {a : Atom} (h : atomOf v = some a) (h' : atomOf u = some a) : v = u := by
 cases v <;> simp [atomOf] at h <;> cases u <;> simp [atomOf] at h'
 ·subst h; simp at h'; simp [h']
 ·obtain ⟨_, _, rfl⟩ := h'; simp at h
 ·obtain ⟨_, _, rfl⟩ := h; simp at h'
 ·obtain ⟨x, h1, rfl⟩ := h; obtain ⟨y, h2, e⟩ := h'; cases e; rw [tab_inj h1 h2]
noncomputable def atomsOf (xs : List MV) : List Atom := xs.filterMap atomOf
theorem atomsOf_inj : ∀ {xs ys : List MV}, (∀ x ∈ xs, x.isAtom) → (∀ x ∈ ys, x.isAtom) → atomsOf xs = atomsOf ys → xs = ys
 | [], [], _, _, _ => rfl
 | [], y :: ys, _, hy, e => by
  obtain ⟨a, ha⟩ := hy y (by simp)
  simp [atomsOf, ha] at e
 | x :: xs, [], hx, _, e => by
  obtain ⟨a, ha⟩ := hx x (by simp)
  simp [atomsOf, ha] at e
 | x :: xs, y :: ys, hx, hy, e => by
  obtain ⟨a, ha⟩ := hx x (by simp)
  obtain ⟨b, hb⟩ := hy y (by simp)
  simp only [atomsOf, List.filterMap_cons, ha, hb, List.cons.injEq] at e
  obtain ⟨rfl, e⟩ := e
  rw [atomOf_inj ha hb, atomsOf_inj (fun z hz => hx z (by simp [hz])) (fun z hz => hy z (by simp [hz])) e]
theorem VR.atom {ι : List Addr} {h : Heap} {v : MV} {rv : Value} {a : Atom} (hv : VR ι h v rv) (ha : atomOf v = some a) : Mine.isAtom a rv = true := by
 cases v <;> simp [atomOf] at ha
 ·subst ha; obtain ⟨tk, rfl⟩ := hv; simp [isAtom, Value.isInt]
 ·obtain ⟨x, h1, rfl⟩ := ha; obtain ⟨y, tk, h2, rfl⟩ := hv
  rw [h1] at h2; cases h2; simp [isAtom, Value.isStrOf]
noncomputable def keyHash (C : Cx) : MV → Int
 | .int i => hashInt i
 | .str i => hashStr C.w (tx i)
 | .tup xs => tupleKeyHash (atomKind C.prog C.w) (atomsOf xs)
 | _ => 0
theorem keyHash_atom {C : Cx} {v : MV} {a : Atom} (ha : atomOf v = some a) : keyHash C v = hashAtom C.w a := by
 cases v <;> simp [atomOf] at ha
 ·subst ha; rfl
 ·obtain ⟨x, h1, rfl⟩ := ha; simp [keyHash, hashAtom, tx, List.getD, h1]
theorem VRs.itemsAre {C : Cx} {ι : List Addr} {h : Heap} : ∀ {xs : List MV} {vs : List Value}, VRs ι h xs vs → (∀ x ∈ xs, x.isAtom) → ItemsAre (atomKind C.prog C.w) (atomsOf xs) vs
 | [], vs, hv, _ => by have hv : _ = _ := hv; subst hv; exact .nil
 | x :: xs, vs, hv, hx => by
  obtain ⟨v, r, rfl, h1, h2⟩ := hv
  obtain ⟨a, ha⟩ := hx x (by simp)
  simp only [atomsOf, List.filterMap_cons, ha]
  exact .cons (h1.atom ha) (h2.itemsAre fun z hz => hx z (by simp [hz]))
theorem VR.tupleKey {C : Cx} {ι : List Addr} {h : Heap} {xs : List MV} {rv : Value} (hv : VR ι h (.tup xs) rv) (hx : ∀ x ∈ xs, x.isAtom) :
  ∃ a, rv = .ref a ∧ IsTupleKey (atomKind C.prog C.w) h (atomsOf xs) a := by
 obtain ⟨a, items, n, rfl, h1, h4⟩ := hv
 exact ⟨a, rfl, _, items, n, h1, rfl, rfl, h4.itemsAre hx⟩
noncomputable def ER (C : Cx) (ι : List Addr) (h : Heap) : List (MV × MV) → List DictEntry → Prop
 | [], es => es = []
 | (k, v) :: r, es => ∃ e es', es = e :: es' ∧ e.hash = keyHash C k ∧ VR ι h k e.key ∧ VR ι h v e.val ∧ ER C ι h r es'
noncomputable def KeysOk (es : List (MV × MV)) : Prop := ((∀ e ∈ es, e.1.isAtom) ∨ (∀ e ∈ es, e.1.isFlat)) ∧ (es.map (·.1)).Nodup
noncomputable def NSR (ι : List Addr) (h : Heap) (as : List (Nat × MV)) (m : Str → Option Value) : Prop :=
 ∀ i x, tab[i]? = some x → match alook as i with
  | some v => ∃ rv, m x = some rv ∧ VR ι h v rv
  | none => m x = none
inductive LR (ι : List Addr) (h : Heap) (xs : List MV) (o : Obj) : Prop where
 | mk (a : o.cls = .type "list") (b : o.dict = none) (c : o.slots = #[]) (items : Array Value) (n : Nat) (d : o.data = .seq items n) (e : VRs ι h xs items.toList) (f : xs.length ≤ sizeLine)
inductive DR (C : Cx) (ι : List Addr) (h : Heap) (ep : Nat) (es : List (MV × MV)) (o : Obj) : Prop where
 | mk (a : o.ExactDict) (b : KeysOk es) (entries : Array DictEntry) (d : o.data = .dict entries ep) (e : ER C ι h es entries.toList) (f : es.length ≤ sizeLine)
inductive NR (ι : List Addr) (h : Heap) (as : List (Nat × MV)) (o : Obj) : Prop where
 | mk (a : o.cls = .type "dict") (b : o.dict = none) (es : Array DictEntry) (ep : Nat) (m : Str → Option Value) (d : o.data = .dict es ep) (e : StrKeys es) (f : UniqKeys es) (g : ∀ x, nsFind es x = m x) (i : NSR ι h as m) (j : Within m tab)
noncomputable def OR (C : Cx) (ι : List Addr) (h : Heap) : MO → Obj → Prop
 | .list xs, o => LR ι h xs o
 | .dict ep es, o => DR C ι h ep es o
 | .ns as, o => NR ι h as o
structure Rel (C : Cx) (ι : List Addr) (σ : MH) (h : Heap) : Prop where
 len : ι.length = σ.length
 nodup : ι.Nodup
 above : ∀ a ∈ ι, C.h₀.objs.size ≤ a
 obj : ∀ (n : Nat) (o : MO), σ[n]? = some o → ∃ a ob, ι[n]? = some a ∧ h.get? a = some ob ∧ OR C ι h o ob
 keep : ∀ b o, C.h₀.get? b = some o → h.get? b = some o
 size : C.h₀.objs.size ≤ h.objs.size
theorem OR.cls {C : Cx} {ι : List Addr} {h : Heap} {o : MO} {ob : Obj} (x : OR C ι h o ob) : ob.cls = .type "list" ∨ ob.cls = .type "dict" := by
 cases o with
 | list xs => obtain ⟨a⟩ := x; exact .inl a
 | dict _ es => obtain ⟨a⟩ := x; exact .inr a.1
 | ns as => obtain ⟨a⟩ := x; exact .inr a
section
variable {C : Cx} {ι ι' : List Addr} {σ : MH} {h h' : Heap}
theorem Rel.at (R : Rel C ι σ h) {a : Addr} (ha : a ∈ ι) : ∃ (n : Nat) (o : MO) (ob : Obj), ι[n]? = some a ∧ σ[n]? = some o ∧ h.get? a = some ob ∧ OR C ι h o ob := by
 obtain ⟨n, hn⟩ := List.mem_iff_getElem?.mp ha
 have hlt : n < σ.length := by rw [← R.len]; exact (List.getElem?_eq_some_iff.mp hn).1
 obtain ⟨a', ob, h1, h2, h3⟩ := R.obj n σ[n] (List.getElem?_eq_getElem hlt)
 rw [hn] at h1; cases h1
 exact ⟨n, σ[n], ob, hn, List.getElem?_eq_getElem hlt, h2, h3⟩
theorem Rel.loc (R : Rel C ι σ h) {n : Nat} {o : MO} {a : Addr} (hn : ι[n]? = some a) (ho : σ[n]? = some o) : ∃ ob, h.get? a = some ob ∧ OR C ι h o ob := by
 obtain ⟨b, ob, h1, h2, h3⟩ := R.obj n o ho
 rw [hn] at h1; cases h1
 exact ⟨ob, h2, h3⟩
theorem Rel.lt (R : Rel C ι σ h) {a : Addr} (ha : a ∈ ι) : a < h.objs.size := by
 obtain ⟨_, _, _, _, _, h2, _⟩ := R.at ha; exact Heap.lt_size h2
theorem Rel.off (R : Rel C ι σ h) {a : Addr} {o : Obj} (ho : h.get? a = some o) (h1 : o.cls ≠ .type "list") (h2 : o.cls ≠ .type "dict") : a ∉ ι := fun ha => by
 obtain ⟨_, _, ob, _, _, h3, h4⟩ := R.at ha
 rw [ho] at h3; cases h3
 exact h4.cls.elim h1 h2
theorem Rel.offCell (R : Rel C ι σ h) {a : Addr} {o : Obj} {v : Option Value} (ho : h.get? a = some o) (h1 : o.data = .cell v) : a ∉ ι := fun ha => by
 obtain ⟨_, mo, ob, _, _, h3, h4⟩ := R.at ha
 rw [ho] at h3; cases h3
 cases mo with
 | list xs => obtain ⟨_, _, _, _, _, q, _⟩ := h4; rw [h1] at q; cases q
 | dict _ es => obtain ⟨_, _, _, q, _⟩ := h4; rw [h1] at q; cases q
 | ns as => obtain ⟨_, _, _, _, _, q, _⟩ := h4; rw [h1] at q; cases q
theorem Rel.offImm (R : Rel C ι σ h) {a : Addr} {o : Obj} (ho : h.get? a = some o) (h1 : Imm o) : a ∉ ι := R.off ho h1.notList h1.notDict
theorem Rel.offBase (R : Rel C ι σ h) {a : Addr} {o : Obj} (ho : C.h₀.get? a = some o) : a ∉ ι := fun ha =>
 absurd (Heap.lt_size ho) (Nat.not_lt.mpr (R.above a ha))
theorem Rel.inK (R : Rel C ι σ h) : C.K.In h := C.inK.keeps R.keep
theorem Rel.top (R : Rel C ι σ h) : TopRead C.p C.loose C.mg C.mb h := C.top.keeps R.keep
theorem Rel.noSys (R : Rel C ι σ h) {a : Addr} (ha : a ∈ ι) : (a == sysModules) = false := by
 have h1 := R.above a ha
 obtain ⟨mc, ⟨o, es, ep, ho, _⟩, _⟩ := C.top.nolimit
 have h2 := Heap.lt_size ho
 have : a ≠ sysModules := by
  intro e; subst e; have h3 : (2 : Nat) < C.h₀.objs.size := h2; have h4 : C.h₀.objs.size ≤ (1 : Nat) := h1; lia
 simpa using this
end
namespace Step
variable {D ι ι' ι'' : List Addr} {h h' h'' : Heap}
theorem refl (D ι : List Addr) (h : Heap) : Step D ι h ι h := ⟨⟨[], by simp, by simp⟩, fun _ _ _ _ e => e, Nat.le_refl _⟩
theorem notMem (S : Step D ι h ι' h') {b : Addr} (hb : b ∉ ι) (hl : b < h.objs.size) : b ∉ ι' := by
 obtain ⟨r, rfl, hr⟩ := S.pre
 intro hm
 rcases List.mem_append.mp hm with e | e
 ·exact hb e
 ·exact absurd hl (Nat.not_lt.mpr (hr b e))
theorem trans (S : Step D ι h ι' h') (S' : Step D ι' h' ι'' h'') : Step D ι h ι'' h'' := by
 refine ⟨?_, fun b o hb hd e => S'.keep b o (S.notMem hb (Heap.lt_size e)) hd (S.keep b o hb hd e), Nat.le_trans S.size S'.size⟩
 obtain ⟨r, rfl, hr⟩ := S.pre
 obtain ⟨r', rfl, hr'⟩ := S'.pre
 refine ⟨r ++ r', by simp, fun a ha => ?_⟩
 rcases List.mem_append.mp ha with e | e
 ·exact hr a e
 ·exact Nat.le_trans S.size (hr' a e)
theorem weak (S : Step D ι h ι' h') {D' : List Addr} (hd : ∀ a ∈ D, a ∈ D') : Step D' ι h ι' h' := ⟨S.pre, fun b o h1 h2 => S.keep b o h1 fun q => h2 (hd b q), S.size⟩
theorem clean (S : Step D ι h ι' h') {D' : List Addr} (hd : ∀ a ∈ D, a ∈ D' ∨ h.objs.size ≤ a) : Step D' ι h ι' h' :=
 ⟨S.pre, fun b o h1 h2 e => S.keep b o h1 (fun q => (hd b q).elim h2 fun x => absurd (Heap.lt_size e) (Nat.not_lt.mpr x)) e, S.size⟩
theorem get? (S : Step D ι h ι' h') {n : Nat} {a : Addr} (e : ι[n]? = some a) : ι'[n]? = some a := by
 obtain ⟨r, rfl, _⟩ := S.pre
 rw [List.getElem?_append_left (List.getElem?_eq_some_iff.mp e).1]; exact e
end Step
noncomputable def DOk (D ι : List Addr) (h : Heap) : Prop := ∀ a ∈ D, a ∉ ι ∧ ∃ o, h.get? a = some o ∧ DObj o
theorem DOk.nil {ι : List Addr} {h : Heap} : DOk [] ι h := fun _ h => nomatch h
theorem DOk.imm {D ι : List Addr} {h : Heap} (x : DOk D ι h) {a : Addr} {o : Obj} (ho : h.get? a = some o) (hi : Imm o) : a ∉ D := fun ha => by
 obtain ⟨_, o', h1, h2⟩ := x a ha
 rw [ho] at h1; cases h1
 exact hi.notD h2
section
variable {C : Cx} {D ι ι' : List Addr} {σ σ' : MH} {h h' : Heap}
theorem Step.imm (S : Step D ι h ι' h') (R : Rel C ι σ h) (X : DOk D ι h) : ∀ b o, Imm o → h.get? b = some o → h'.get? b = some o :=
 fun b o hi e => S.keep b o (R.offImm e hi) (X.imm e hi) e
theorem VR.step {v : MV} {rv : Value} (x : VR ι h v rv) (R : Rel C ι σ h) (X : DOk D ι h) (S : Step D ι h ι' h') : VR ι' h' v rv := VR.map (fun _ _ e => S.get? e) (S.imm R X) x
theorem VRs.step {xs : List MV} {vs : List Value} (x : VRs ι h xs vs) (R : Rel C ι σ h) (X : DOk D ι h) (S : Step D ι h ι' h') : VRs ι' h' xs vs := VRs.map (fun _ _ e => S.get? e) (S.imm R X) x
end
theorem ER.map {C : Cx} {ι ι' : List Addr} {h h' : Heap} (hi : ∀ (n : Nat) (a : Addr), ι[n]? = some a → ι'[n]? = some a) (hk : ∀ b o, Imm o → h.get? b = some o → h'.get? b = some o) :
  ∀ {es : List (MV × MV)} {ds : List DictEntry}, ER C ι h es ds → ER C ι' h' es ds
 | [], _, e => e
 | _ :: _, _, ⟨d, r, e, e0, e1, e2, e3⟩ => ⟨d, r, e, e0, VR.map hi hk e1, VR.map hi hk e2, ER.map hi hk e3⟩
theorem NSR.map {ι ι' : List Addr} {h h' : Heap} (hi : ∀ (n : Nat) (a : Addr), ι[n]? = some a → ι'[n]? = some a) (hk : ∀ b o, Imm o → h.get? b = some o → h'.get? b = some o)
  {as : List (Nat × MV)} {m : Str → Option Value} (x : NSR ι h as m) : NSR ι' h' as m := fun i y hy => by
 have := x i y hy
 split <;> rename_i e <;> rw [e] at this
 ·obtain ⟨rv, h1, h2⟩ := this; exact ⟨rv, h1, h2.map hi hk⟩
 ·exact this
theorem OR.map {C : Cx} {ι ι' : List Addr} {h h' : Heap} (hi : ∀ (n : Nat) (a : Addr), ι[n]? = some a → ι'[n]? = some a) (hk : ∀ b o, Imm o → h.get? b = some o → h'.get? b = some o) :
  ∀ {o : MO} {ob : Obj}, OR C ι h o ob → OR C ι' h' o ob := by
 intro o ob x
 cases o with
 | list => obtain ⟨a, b, c, items, n, d, e, f⟩ := x; exact ⟨a, b, c, items, n, d, e.map hi hk, f⟩
 | dict => obtain ⟨a, b, es, d, e, f⟩ := x; exact ⟨a, b, es, d, e.map hi hk, f⟩
 | ns => obtain ⟨a, b, es, ep, m, d, e, f, g, i, j⟩ := x; exact ⟨a, b, es, ep, m, d, e, f, g, i.map hi hk, j⟩
section
variable {C : Cx} {ι : List Addr} {σ : MH} {h h' : Heap}
theorem Rel.same (R : Rel C ι σ h) (hk : ∀ b o, h.get? b = some o → h'.get? b = some o) (hs : h.objs.size ≤ h'.objs.size) : Rel C ι σ h' where
 len := R.len
 nodup := R.nodup
 above := R.above
 obj := fun n o e => by
  obtain ⟨a, ob, h1, h2, h3⟩ := R.obj n o e
  exact ⟨a, ob, h1, hk _ _ h2, h3.map (fun _ _ e => e) fun b o _ e => hk b o e⟩
 keep := fun b o e => hk b o (R.keep b o e)
 size := Nat.le_trans R.size hs
theorem Step.same (hk : ∀ b o, h.get? b = some o → h'.get? b = some o) (hs : h.objs.size ≤ h'.objs.size) : Step [] ι h ι h' := ⟨⟨[], by simp, by simp⟩, fun b o _ _ e => hk b o e, hs⟩
theorem Rel.dirty (R : Rel C ι σ h) {D : List Addr} (X : DOk D ι h) (hk : ∀ b o, b ∉ D → h.get? b = some o → h'.get? b = some o) (hs : h.objs.size ≤ h'.objs.size)
  (hb : ∀ a ∈ D, C.h₀.objs.size ≤ a) : Rel C ι σ h' where
 len := R.len
 nodup := R.nodup
 above := R.above
 obj := fun n o e => by
  obtain ⟨a, ob, h1, h2, h3⟩ := R.obj n o e
  exact ⟨a, ob, h1, hk _ _ (fun q => (X a q).1 (List.mem_of_getElem? h1)) h2, h3.map (fun _ _ e => e) fun b o hi e => hk b o (X.imm e hi) e⟩
 keep := fun b o e => hk b o (fun q => absurd (Heap.lt_size e) (Nat.not_lt.mpr (hb b q))) (R.keep b o e)
 size := Nat.le_trans R.size hs
theorem Rel.set (R : Rel C ι σ h) {n : Nat} {a : Addr} {o' : MO} {ob' : Obj} (hn : ι[n]? = some a) (hk : ∀ b o, b ≠ a → h.get? b = some o → h'.get? b = some o) (hs : h.objs.size ≤ h'.objs.size)
  (ho : h'.get? a = some ob') (hr : OR C ι h o' ob') : Rel C ι (σ.set n o') h' where
 len := by rw [List.length_set]; exact R.len
 nodup := R.nodup
 above := R.above
 obj := fun m o e => by
  have ha : a ∈ ι := List.mem_of_getElem? hn
  have hi : ∀ (n : Nat) (a : Addr), ι[n]? = some a → ι[n]? = some a := fun _ _ e => e
  have hk' : ∀ b o, Imm o → h.get? b = some o → h'.get? b = some o := fun b o hb e => hk b o (fun q => R.offImm e hb (q ▸ ha)) e
  by_cases hmn : n = m
  ·subst hmn
   have hlt : n < σ.length := by rw [← R.len]; exact (List.getElem?_eq_some_iff.mp hn).1
   rw [List.getElem?_set_self hlt] at e
   cases e
   exact ⟨a, ob', hn, ho, hr.map hi hk'⟩
  ·rw [List.getElem?_set_ne hmn] at e
   obtain ⟨b, ob, h1, h2, h3⟩ := R.obj m o e
   refine ⟨b, ob, h1, hk b ob (fun q => hmn ?_) h2, h3.map hi hk'⟩
   subst q
   exact (List.getElem?_inj (List.getElem?_eq_some_iff.mp hn).1 R.nodup).mp (hn.trans h1.symm)
 keep := fun b o e => hk b o (fun q => absurd (Heap.lt_size e) (Nat.not_lt.mpr (R.above b (q ▸ List.mem_of_getElem? hn)))) (R.keep b o e)
 size := Nat.le_trans R.size hs
theorem Step.set {n : Nat} {a : Addr} (hn : ι[n]? = some a) (hk : ∀ b o, b ≠ a → h.get? b = some o → h'.get? b = some o) (hs : h.objs.size ≤ h'.objs.size) : Step [] ι h ι h' :=
 ⟨⟨[], by simp, by simp⟩, fun b o hb _ e => hk b o (fun q => hb (q ▸ List.mem_of_getElem? hn)) e, hs⟩
theorem Rel.new (R : Rel C ι σ h) {a : Addr} {o' : MO} {ob' : Obj} (ha : h.objs.size ≤ a) (hk : ∀ b o, h.get? b = some o → h'.get? b = some o) (hs : h.objs.size ≤ h'.objs.size)
  (ho : h'.get? a = some ob') (hr : OR C ι h o' ob') : Rel C (ι ++ [a]) (σ ++ [o']) h' where
 len := by simp [R.len]
 nodup := by
  rw [List.nodup_append]
  refine ⟨R.nodup, by simp, fun b hb c hc e => ?_⟩
  rw [List.mem_singleton] at hc
  subst hc; subst e
  exact absurd (R.lt hb) (Nat.not_lt.mpr ha)
 above := fun b hb => by
  rcases List.mem_append.mp hb with e | e
  ·exact R.above b e
  ·rw [List.mem_singleton.mp e]; exact Nat.le_trans R.size ha
 obj := fun m o e => by
  have hi : ∀ (n : Nat) (b : Addr), ι[n]? = some b → (ι ++ [a])[n]? = some b := fun n b e => by
   rw [List.getElem?_append_left (List.getElem?_eq_some_iff.mp e).1]; exact e
  have hk' : ∀ b o, Imm o → h.get? b = some o → h'.get? b = some o := fun b o _ => hk b o
  by_cases hm : m < σ.length
  ·rw [List.getElem?_append_left hm] at e
   obtain ⟨b, ob, h1, h2, h3⟩ := R.obj m o e
   exact ⟨b, ob, hi _ _ h1, hk _ _ h2, h3.map hi hk'⟩
  ·have hm' : m = σ.length := by
    have := (List.getElem?_eq_some_iff.mp e).1
    simp at this; lia
   subst hm'
   simp at e; subst e
   exact ⟨a, ob', by simp [← R.len], ho, hr.map hi hk'⟩
 keep := fun b o e => hk b o (R.keep b o e)
 size := Nat.le_trans R.size hs
theorem Step.new {a : Addr} (ha : h.objs.size ≤ a) (hk : ∀ b o, h.get? b = some o → h'.get? b = some o) (hs : h.objs.size ≤ h'.objs.size) : Step [] ι h (ι ++ [a]) h' :=
 ⟨⟨[a], rfl, fun b hb => by rw [List.mem_singleton.mp hb]; exact ha⟩, fun b o _ _ e => hk b o e, hs⟩
end
end Mine
namespace Mine
open PySem PySem.W PyProof.Rows PySem.Calls
set_option genInjectivity false
inductive Tg where
 | v (i : Nat) | t (is : List Nat)
inductive IE where
 | lit (v : MV)
 | var (i : Nat)
 | glob (i : Nat)
 | tup (es : List IE)
 | list (es : List IE)
 | dict (ks vs : List IE)
 | attr (e : IE) (a : Nat)
 | sub (e i : IE)
 | rev (e : IE)
 | call (f : IE) (args : List IE)
 | meth (e : IE) (a : Nat) (args : List IE)
 | bin (op : Operator) (a b : IE)
 | neg (a : IE)
 | not (a : IE)
 | cmp (op : CmpOp) (a b : IE)
 | and (es : List IE)
 | or (es : List IE)
 | ite (c a b : IE)
 | comp (cap : List Nat) (elt : IE) (ts : List Tg) (its : List IE) (ifs : List (List IE))
 | wall
inductive IS where
 | expr (e : IE)
 | setv (i : Nat) (e : IE)
 | setc (i : Nat) (e : IE)
 | sett (is : List Nat) (e : IE)
 | seta (o : IE) (a : Nat) (e : IE)
 | seti (o i e : IE)
 | ite (c : IE) (a b : List IS)
 | while (c : IE) (b : List IS)
 | for (t : Tg) (e : IE) (b : List IS)
 | ret (e : IE)
 | cont
noncomputable abbrev Names := List (Str × NameKind)
inductive Y1 {α : Type} (p q : α → Prop) : Prop where
 | mk (a : α) (h : p a) (i : q a)
inductive Y2 {α β : Type} (p q : α → β → Prop) : Prop where
 | mk (a : α) (b : β) (h : p a b) (i : q a b)
inductive Y3 {α β γ : Type} (p q : α → β → γ → Prop) : Prop where
 | mk (a : α) (b : β) (c : γ) (h : p a b c) (i : q a b c)
inductive Y4 {α β γ δ : Type} (p q : α → β → γ → δ → Prop) : Prop where
 | mk (a : α) (b : β) (c : γ) (d : δ) (h : p a b c d) (i : q a b c d)
inductive Y5 {α β γ δ ε : Type} (p q : α → β → γ → δ → ε → Prop) : Prop where
 | mk (a : α) (b : β) (c : γ) (d : δ) (e : ε) (h : p a b c d e) (i : q a b c d e)
noncomputable def onBoolOp (y : PySem.Expr) (f : BoolOp → (List Expr) → Pos → Bool) : Bool := if h : y.ctorIdx = 0 then PySem.Expr.BoolOp.elim (motive_1 := fun _ => Bool) y h f else false
theorem onBoolOp_inv {y : PySem.Expr} {f : BoolOp → (List Expr) → Pos → Bool} (h : onBoolOp y f = true) : Y3 (fun a b c => y = .BoolOp a b c) fun a b c => f a b c = true :=
 if q : y.ctorIdx = 0 then PySem.Expr.BoolOp.elim (motive_1 := fun y => onBoolOp y f = true → Y3 (fun a b c => y = .BoolOp a b c) fun a b c => f a b c = true) y q (fun a b c h => ⟨a, b, c, rfl, h⟩) h else ff ((dif_neg q).symm.trans h)
noncomputable def onBinOp (y : PySem.Expr) (f : Expr → Operator → Expr → Pos → Bool) : Bool := if h : y.ctorIdx = 2 then PySem.Expr.BinOp.elim (motive_1 := fun _ => Bool) y h f else false
theorem onBinOp_inv {y : PySem.Expr} {f : Expr → Operator → Expr → Pos → Bool} (h : onBinOp y f = true) : Y4 (fun a b c d => y = .BinOp a b c d) fun a b c d => f a b c d = true :=
 if q : y.ctorIdx = 2 then PySem.Expr.BinOp.elim (motive_1 := fun y => onBinOp y f = true → Y4 (fun a b c d => y = .BinOp a b c d) fun a b c d => f a b c d = true) y q (fun a b c d h => ⟨a, b, c, d, rfl, h⟩) h else ff ((dif_neg q).symm.trans h)
noncomputable def onUnaryOp (y : PySem.Expr) (f : UnaryOp → Expr → Pos → Bool) : Bool := if h : y.ctorIdx = 3 then PySem.Expr.UnaryOp.elim (motive_1 := fun _ => Bool) y h f else false
theorem onUnaryOp_inv {y : PySem.Expr} {f : UnaryOp → Expr → Pos → Bool} (h : onUnaryOp y f = true) : Y3 (fun a b c => y = .UnaryOp a b c) fun a b c => f a b c = true :=
 if q : y.ctorIdx = 3 then PySem.Expr.UnaryOp.elim (motive_1 := fun y => onUnaryOp y f = true → Y3 (fun a b c => y = .UnaryOp a b c) fun a b c => f a b c = true) y q (fun a b c h => ⟨a, b, c, rfl, h⟩) h else ff ((dif_neg q).symm.trans h)
noncomputable def onIfExp (y : PySem.Expr) (f : Expr → Expr → Expr → Pos → Bool) : Bool := if h : y.ctorIdx = 5 then PySem.Expr.IfExp.elim (motive_1 := fun _ => Bool) y h f else false
theorem onIfExp_inv {y : PySem.Expr} {f : Expr → Expr → Expr → Pos → Bool} (h : onIfExp y f = true) : Y4 (fun a b c d => y = .IfExp a b c d) fun a b c d => f a b c d = true :=
 if q : y.ctorIdx = 5 then PySem.Expr.IfExp.elim (motive_1 := fun y => onIfExp y f = true → Y4 (fun a b c d => y = .IfExp a b c d) fun a b c d => f a b c d = true) y q (fun a b c d h => ⟨a, b, c, d, rfl, h⟩) h else ff ((dif_neg q).symm.trans h)
noncomputable def onDict (y : PySem.Expr) (f : (List (Option Expr)) → (List Expr) → Pos → Bool) : Bool := if h : y.ctorIdx = 6 then PySem.Expr.Dict.elim (motive_1 := fun _ => Bool) y h f else false
theorem onDict_inv {y : PySem.Expr} {f : (List (Option Expr)) → (List Expr) → Pos → Bool} (h : onDict y f = true) : Y3 (fun a b c => y = .Dict a b c) fun a b c => f a b c = true :=
 if q : y.ctorIdx = 6 then PySem.Expr.Dict.elim (motive_1 := fun y => onDict y f = true → Y3 (fun a b c => y = .Dict a b c) fun a b c => f a b c = true) y q (fun a b c h => ⟨a, b, c, rfl, h⟩) h else ff ((dif_neg q).symm.trans h)
noncomputable def onListComp (y : PySem.Expr) (f : Expr → (List Comprehension) → Scope → Pos → Bool) : Bool := if h : y.ctorIdx = 8 then PySem.Expr.ListComp.elim (motive_1 := fun _ => Bool) y h f else false
theorem onListComp_inv {y : PySem.Expr} {f : Expr → (List Comprehension) → Scope → Pos → Bool} (h : onListComp y f = true) : Y4 (fun a b c d => y = .ListComp a b c d) fun a b c d => f a b c d = true :=
 if q : y.ctorIdx = 8 then PySem.Expr.ListComp.elim (motive_1 := fun y => onListComp y f = true → Y4 (fun a b c d => y = .ListComp a b c d) fun a b c d => f a b c d = true) y q (fun a b c d h => ⟨a, b, c, d, rfl, h⟩) h else ff ((dif_neg q).symm.trans h)
noncomputable def onCompare (y : PySem.Expr) (f : Expr → (List CmpOp) → (List Expr) → Pos → Bool) : Bool := if h : y.ctorIdx = 15 then PySem.Expr.Compare.elim (motive_1 := fun _ => Bool) y h f else false
theorem onCompare_inv {y : PySem.Expr} {f : Expr → (List CmpOp) → (List Expr) → Pos → Bool} (h : onCompare y f = true) : Y4 (fun a b c d => y = .Compare a b c d) fun a b c d => f a b c d = true :=
 if q : y.ctorIdx = 15 then PySem.Expr.Compare.elim (motive_1 := fun y => onCompare y f = true → Y4 (fun a b c d => y = .Compare a b c d) fun a b c d => f a b c d = true) y q (fun a b c d h => ⟨a, b, c, d, rfl, h⟩) h else ff ((dif_neg q).symm.trans h)
noncomputable def onCall (y : PySem.Expr) (f : Expr → (List Expr) → (List Keyword) → Pos → Bool) : Bool := if h : y.ctorIdx = 16 then PySem.Expr.Call.elim (motive_1 := fun _ => Bool) y h f else false
theorem onCall_inv {y : PySem.Expr} {f : Expr → (List Expr) → (List Keyword) → Pos → Bool} (h : onCall y f = true) : Y4 (fun a b c d => y = .Call a b c d) fun a b c d => f a b c d = true :=
 if q : y.ctorIdx = 16 then PySem.Expr.Call.elim (motive_1 := fun y => onCall y f = true → Y4 (fun a b c d => y = .Call a b c d) fun a b c d => f a b c d = true) y q (fun a b c d h => ⟨a, b, c, d, rfl, h⟩) h else ff ((dif_neg q).symm.trans h)
noncomputable def onConstant (y : PySem.Expr) (f : Const → Nat → Pos → Bool) : Bool := if h : y.ctorIdx = 19 then PySem.Expr.Constant.elim (motive_1 := fun _ => Bool) y h f else false
theorem onConstant_inv {y : PySem.Expr} {f : Const → Nat → Pos → Bool} (h : onConstant y f = true) : Y3 (fun a b c => y = .Constant a b c) fun a b c => f a b c = true :=
 if q : y.ctorIdx = 19 then PySem.Expr.Constant.elim (motive_1 := fun y => onConstant y f = true → Y3 (fun a b c => y = .Constant a b c) fun a b c => f a b c = true) y q (fun a b c h => ⟨a, b, c, rfl, h⟩) h else ff ((dif_neg q).symm.trans h)
noncomputable def onAttribute (y : PySem.Expr) (f : Expr → Str → Pos → Bool) : Bool := if h : y.ctorIdx = 20 then PySem.Expr.Attribute.elim (motive_1 := fun _ => Bool) y h f else false
theorem onAttribute_inv {y : PySem.Expr} {f : Expr → Str → Pos → Bool} (h : onAttribute y f = true) : Y3 (fun a b c => y = .Attribute a b c) fun a b c => f a b c = true :=
 if q : y.ctorIdx = 20 then PySem.Expr.Attribute.elim (motive_1 := fun y => onAttribute y f = true → Y3 (fun a b c => y = .Attribute a b c) fun a b c => f a b c = true) y q (fun a b c h => ⟨a, b, c, rfl, h⟩) h else ff ((dif_neg q).symm.trans h)
noncomputable def onSubscript (y : PySem.Expr) (f : Expr → Expr → Pos → Bool) : Bool := if h : y.ctorIdx = 21 then PySem.Expr.Subscript.elim (motive_1 := fun _ => Bool) y h f else false
theorem onSubscript_inv {y : PySem.Expr} {f : Expr → Expr → Pos → Bool} (h : onSubscript y f = true) : Y3 (fun a b c => y = .Subscript a b c) fun a b c => f a b c = true :=
 if q : y.ctorIdx = 21 then PySem.Expr.Subscript.elim (motive_1 := fun y => onSubscript y f = true → Y3 (fun a b c => y = .Subscript a b c) fun a b c => f a b c = true) y q (fun a b c h => ⟨a, b, c, rfl, h⟩) h else ff ((dif_neg q).symm.trans h)
noncomputable def onName (y : PySem.Expr) (f : Str → Pos → Bool) : Bool := if h : y.ctorIdx = 23 then PySem.Expr.Name.elim (motive_1 := fun _ => Bool) y h f else false
theorem onName_inv {y : PySem.Expr} {f : Str → Pos → Bool} (h : onName y f = true) : Y2 (fun a b => y = .Name a b) fun a b => f a b = true :=
 if q : y.ctorIdx = 23 then PySem.Expr.Name.elim (motive_1 := fun y => onName y f = true → Y2 (fun a b => y = .Name a b) fun a b => f a b = true) y q (fun a b h => ⟨a, b, rfl, h⟩) h else ff ((dif_neg q).symm.trans h)
noncomputable def onList (y : PySem.Expr) (f : (List Expr) → Pos → Bool) : Bool := if h : y.ctorIdx = 24 then PySem.Expr.List.elim (motive_1 := fun _ => Bool) y h f else false
theorem onList_inv {y : PySem.Expr} {f : (List Expr) → Pos → Bool} (h : onList y f = true) : Y2 (fun a b => y = .List a b) fun a b => f a b = true :=
 if q : y.ctorIdx = 24 then PySem.Expr.List.elim (motive_1 := fun y => onList y f = true → Y2 (fun a b => y = .List a b) fun a b => f a b = true) y q (fun a b h => ⟨a, b, rfl, h⟩) h else ff ((dif_neg q).symm.trans h)
noncomputable def onTuple (y : PySem.Expr) (f : (List Expr) → Nat → Pos → Bool) : Bool := if h : y.ctorIdx = 25 then PySem.Expr.Tuple.elim (motive_1 := fun _ => Bool) y h f else false
theorem onTuple_inv {y : PySem.Expr} {f : (List Expr) → Nat → Pos → Bool} (h : onTuple y f = true) : Y3 (fun a b c => y = .Tuple a b c) fun a b c => f a b c = true :=
 if q : y.ctorIdx = 25 then PySem.Expr.Tuple.elim (motive_1 := fun y => onTuple y f = true → Y3 (fun a b c => y = .Tuple a b c) fun a b c => f a b c = true) y q (fun a b c h => ⟨a, b, c, rfl, h⟩) h else ff ((dif_neg q).symm.trans h)
noncomputable def onSlice (y : PySem.Expr) (f : (Option Expr) → (Option Expr) → (Option Expr) → Pos → Bool) : Bool := if h : y.ctorIdx = 26 then PySem.Expr.Slice.elim (motive_1 := fun _ => Bool) y h f else false
theorem onSlice_inv {y : PySem.Expr} {f : (Option Expr) → (Option Expr) → (Option Expr) → Pos → Bool} (h : onSlice y f = true) : Y4 (fun a b c d => y = .Slice a b c d) fun a b c d => f a b c d = true :=
 if q : y.ctorIdx = 26 then PySem.Expr.Slice.elim (motive_1 := fun y => onSlice y f = true → Y4 (fun a b c d => y = .Slice a b c d) fun a b c d => f a b c d = true) y q (fun a b c d h => ⟨a, b, c, d, rfl, h⟩) h else ff ((dif_neg q).symm.trans h)
noncomputable def onSReturn (y : PySem.Stmt) (f : (Option Expr) → Pos → Bool) : Bool := if h : y.ctorIdx = 3 then PySem.Stmt.Return.elim (motive_2 := fun _ => Bool) y h f else false
theorem onSReturn_inv {y : PySem.Stmt} {f : (Option Expr) → Pos → Bool} (h : onSReturn y f = true) : Y2 (fun a b => y = .Return a b) fun a b => f a b = true :=
 if q : y.ctorIdx = 3 then PySem.Stmt.Return.elim (motive_2 := fun y => onSReturn y f = true → Y2 (fun a b => y = .Return a b) fun a b => f a b = true) y q (fun a b h => ⟨a, b, rfl, h⟩) h else ff ((dif_neg q).symm.trans h)
noncomputable def onSAssign (y : PySem.Stmt) (f : (List Expr) → Expr → Pos → Bool) : Bool := if h : y.ctorIdx = 5 then PySem.Stmt.Assign.elim (motive_2 := fun _ => Bool) y h f else false
theorem onSAssign_inv {y : PySem.Stmt} {f : (List Expr) → Expr → Pos → Bool} (h : onSAssign y f = true) : Y3 (fun a b c => y = .Assign a b c) fun a b c => f a b c = true :=
 if q : y.ctorIdx = 5 then PySem.Stmt.Assign.elim (motive_2 := fun y => onSAssign y f = true → Y3 (fun a b c => y = .Assign a b c) fun a b c => f a b c = true) y q (fun a b c h => ⟨a, b, c, rfl, h⟩) h else ff ((dif_neg q).symm.trans h)
noncomputable def onSFor (y : PySem.Stmt) (f : Expr → Expr → (List Stmt) → (List Stmt) → Pos → Bool) : Bool := if h : y.ctorIdx = 9 then PySem.Stmt.For.elim (motive_2 := fun _ => Bool) y h f else false
theorem onSFor_inv {y : PySem.Stmt} {f : Expr → Expr → (List Stmt) → (List Stmt) → Pos → Bool} (h : onSFor y f = true) : Y5 (fun a b c d e => y = .For a b c d e) fun a b c d e => f a b c d e = true :=
 if q : y.ctorIdx = 9 then PySem.Stmt.For.elim (motive_2 := fun y => onSFor y f = true → Y5 (fun a b c d e => y = .For a b c d e) fun a b c d e => f a b c d e = true) y q (fun a b c d e h => ⟨a, b, c, d, e, rfl, h⟩) h else ff ((dif_neg q).symm.trans h)
noncomputable def onSWhile (y : PySem.Stmt) (f : Expr → (List Stmt) → (List Stmt) → Pos → Bool) : Bool := if h : y.ctorIdx = 11 then PySem.Stmt.While.elim (motive_2 := fun _ => Bool) y h f else false
theorem onSWhile_inv {y : PySem.Stmt} {f : Expr → (List Stmt) → (List Stmt) → Pos → Bool} (h : onSWhile y f = true) : Y4 (fun a b c d => y = .While a b c d) fun a b c d => f a b c d = true :=
 if q : y.ctorIdx = 11 then PySem.Stmt.While.elim (motive_2 := fun y => onSWhile y f = true → Y4 (fun a b c d => y = .While a b c d) fun a b c d => f a b c d = true) y q (fun a b c d h => ⟨a, b, c, d, rfl, h⟩) h else ff ((dif_neg q).symm.trans h)
noncomputable def onSIf (y : PySem.Stmt) (f : Expr → (List Stmt) → (List Stmt) → Pos → Bool) : Bool := if h : y.ctorIdx = 12 then PySem.Stmt.If.elim (motive_2 := fun _ => Bool) y h f else false
theorem onSIf_inv {y : PySem.Stmt} {f : Expr → (List Stmt) → (List Stmt) → Pos → Bool} (h : onSIf y f = true) : Y4 (fun a b c d => y = .If a b c d) fun a b c d => f a b c d = true :=
 if q : y.ctorIdx = 12 then PySem.Stmt.If.elim (motive_2 := fun y => onSIf y f = true → Y4 (fun a b c d => y = .If a b c d) fun a b c d => f a b c d = true) y q (fun a b c d h => ⟨a, b, c, d, rfl, h⟩) h else ff ((dif_neg q).symm.trans h)
noncomputable def onSExpr (y : PySem.Stmt) (f : Expr → Pos → Bool) : Bool := if h : y.ctorIdx = 24 then PySem.Stmt.Expr.elim (motive_2 := fun _ => Bool) y h f else false
theorem onSExpr_inv {y : PySem.Stmt} {f : Expr → Pos → Bool} (h : onSExpr y f = true) : Y2 (fun a b => y = .Expr a b) fun a b => f a b = true :=
 if q : y.ctorIdx = 24 then PySem.Stmt.Expr.elim (motive_2 := fun y => onSExpr y f = true → Y2 (fun a b => y = .Expr a b) fun a b => f a b = true) y q (fun a b h => ⟨a, b, rfl, h⟩) h else ff ((dif_neg q).symm.trans h)
noncomputable def onSContinue (y : PySem.Stmt) (f : Pos → Bool) : Bool := if h : y.ctorIdx = 27 then PySem.Stmt.Continue.elim (motive_2 := fun _ => Bool) y h f else false
theorem onSContinue_inv {y : PySem.Stmt} {f : Pos → Bool} (h : onSContinue y f = true) : Y1 (fun a => y = .Continue a) fun a => f a = true :=
 if q : y.ctorIdx = 27 then PySem.Stmt.Continue.elim (motive_2 := fun y => onSContinue y f = true → Y1 (fun a => y = .Continue a) fun a => f a = true) y q (fun a h => ⟨a, rfl, h⟩) h else ff ((dif_neg q).symm.trans h)
noncomputable def onCons {α : Type} (l : List α) (f : α → List α → Bool) : Bool := match l with
 | [] => false
 | a :: r => f a r
theorem onCons_inv {α : Type} {l : List α} {f : α → List α → Bool} (h : onCons l f = true) : Y2 (fun a r => l = a :: r) fun a r => f a r = true := match l, h with
 | [], h => ff h
 | _ :: _, h => ⟨_, _, rfl, h⟩
noncomputable def onSome {α : Type} (l : Option α) (f : α → Bool) : Bool := match l with
 | none => false
 | some a => f a
theorem onSome_inv {α : Type} {l : Option α} {f : α → Bool} (h : onSome l f = true) : Y1 (fun a => l = some a) fun a => f a = true := match l, h with
 | none, h => ff h
 | some _, h => ⟨_, rfl, h⟩
theorem nil_inv {α : Type} {l : List α} (h : l.isEmpty = true) : l = [] := match l, h with
 | [], _ => rfl
noncomputable def on1 {α : Type} (l : List α) (f : α → Bool) : Bool := onCons l fun a r => r.isEmpty && f a
theorem on1_inv {α : Type} {l : List α} {f : α → Bool} (h : on1 l f = true) : Y1 (fun a => l = [a]) fun a => f a = true := match onCons_inv h with
 | ⟨a, _, e, h⟩ => ⟨a, by rw [e, nil_inv (and2 h).1], (and2 h).2⟩
noncomputable def isVar (ns : Names) (id : Str) : Bool := match ns.lookup id with
 | some .local | some .cell | some .free => true
 | _ => false
noncomputable def chkC : MV → Const → Bool
 | .none, .none => true
 | .bool a, .bool b => a == b
 | .int a, .int b => decide (a = b)
 | .str i, .str x => decide (tab[i]? = some x)
 | .bytes a, .bytes b => decide (a = b.toArray)
 | _, _ => false
noncomputable def isOwn (ns : Names) (id : Str) : Bool := match ns.lookup id with
 | some .local | some .cell => true
 | _ => false
noncomputable def chkN (ns : Names) (i : Nat) (e : Expr) : Bool := onName e fun id _ => decide (tab[i]? = some id) && isOwn ns id && !(id == ("__debug__" : Str))
noncomputable def chkNs (ns : Names) : List Nat → List Expr → Bool
 | [], es => es.isEmpty
 | i :: is, es => onCons es fun e es => chkN ns i e && chkNs ns is es
noncomputable def chkT (ns : Names) : Tg → Expr → Bool
 | .v i, e => chkN ns i e
 | .t is, e => onTuple e fun es _ _ => chkNs ns is es
noncomputable def isLocal (ns : Names) (i : Nat) : Bool := match tab[i]? with | some x => ns.lookup x == some .local | none => false
noncomputable def chkTL (ns : Names) : Tg → Bool
 | .v i => isLocal ns i
 | .t is => is.all (isLocal ns)
noncomputable def inner (ns : Names) (outer : Names) : Names := ns.map fun (n, k) => if k == .free && outer.lookup n == some .cell then (n, .cell) else (n, k)
noncomputable def chkCap (scope : Scope) (outer : Names) (cap : List Nat) : Bool :=
 scope.kind == .function &&
 (scope.names.all fun (n, k) => (k == .local || k == .globalImplicit || (k == .free && (outer.lookup n == some .cell || outer.lookup n == some .free) && !(n == ("__classdict__" : Str)))) && scope.names.lookup n == some k && (!(k == .free) || tab.contains n)) &&
 cap.all fun i => match tab[i]? with | some x => scope.names.lookup x == some .free | none => false
noncomputable def notStar (e : Expr) : Bool := !(Nat.beq e.ctorIdx 22)
noncomputable def notAttr (e : Expr) : Bool := !(Nat.beq e.ctorIdx 20)
noncomputable def notSlice (e : Expr) : Bool := !(Nat.beq e.ctorIdx 26)
noncomputable def notSet (e : Expr) : Bool := !(Nat.beq e.ctorIdx 7)
noncomputable def notSuper (e : Expr) : Bool := !(onCall e fun g xs kw _ => xs.isEmpty && kw.isEmpty && onName g fun id _ => id == ("super" : Str))
noncomputable def isOne (e : Expr) : Bool := onConstant e fun c _ _ => chkC (.int 1) c
noncomputable def isNegOne (e : Expr) : Bool := onUnaryOp e fun op x _ => decide (op = .USub) && isOne x
noncomputable def isRev (e : Expr) : Bool := onSlice e fun a b c _ => a.isNone && b.isNone && onSome c isNegOne
theorem isOne_inv {e : Expr} (h : isOne e = true) : E2 fun k p => e = .Constant (.int 1) k p := by
 replace h := onConstant_inv h; obtain ⟨c, k, p, rfl, h⟩ := h
 cases c <;> first | exact ff h | (have := of_decide_eq_true h; subst this; exact ⟨_, _, rfl⟩)
theorem isNegOne_inv {e : Expr} (h : isNegOne e = true) : E2 fun x p => e = .UnaryOp .USub x p ∧ isOne x = true := by
 replace h := onUnaryOp_inv h; obtain ⟨op, x, p, rfl, h⟩ := h
 have q := of_decide_eq_true (and2 h).1
 exact ⟨_, _, by rw [q], (and2 h).2⟩
theorem isRev_inv {e : Expr} (h : isRev e = true) : ∃ k p1 p2 p3, e = .Slice none none (some (.UnaryOp .USub (.Constant (.int 1) k p1) p2)) p3 := by
 replace h := onSlice_inv h; obtain ⟨a, b, c, p, rfl, h⟩ := h
 obtain ⟨h1, h2, h3⟩ := and3 h
 obtain ⟨x, rfl, h3⟩ := onSome_inv h3
 obtain ⟨y, p2, rfl, h4⟩ := isNegOne_inv h3
 obtain ⟨k, p1, rfl⟩ := isOne_inv h4
 cases a with
 | some _ => exact ff h1
 | none => cases b with
  | some _ => exact ff h2
  | none => exact ⟨_, _, _, _, rfl⟩
noncomputable def chkTs (ns : Names) : List Tg → List Comprehension → Bool
 | [], gs => gs.isEmpty
 | t :: ts, gs => onCons gs fun g gs => chkT ns t g.target && chkTL ns t && chkTs ns ts gs
mutual
noncomputable def chk (ns : Names) : IE → Expr → Bool
 | .wall, _ => true
 | .lit v, y => onConstant y fun c _ _ => chkC v c
 | .var i, y => onName y fun id _ => decide (tab[i]? = some id) && isVar ns id && !(id == ("__debug__" : Str))
 | .glob i, y => onName y fun id _ => decide (tab[i]? = some id) && ns.lookup id == some .globalImplicit && !(id == ("__debug__" : Str))
 | .tup es, y => onTuple y fun xs _ _ => chks ns es xs
 | .list es, y => onList y fun xs _ => chks ns es xs
 | .dict ks vs, y => onDict y fun kx vx _ => chkks ns ks kx && chks ns vs vx && decide (kx.length = vx.length) && decide (kx.length ≤ 15)
 | .attr e a, y => onAttribute y fun x nm _ => chk ns e x && decide (tab[a]? = some nm) && notSuper x
 | .sub e i, y => onSubscript y fun x z _ => chk ns e x && chk ns i z && notSlice z
 | .rev e, y => onSubscript y fun x sl _ => chk ns e x && isRev sl
 | .call f args, y => onCall y fun g xs kw _ => kw.isEmpty && notAttr g && chk ns f g && chks ns args xs && decide (xs.length < 30)
 | .meth e a args, y => onCall y fun g xs kw p => kw.isEmpty && onAttribute g fun x nm ap => chk ns e x && decide (tab[a]? = some nm) && chks ns args xs && decide (xs.length < 30) && notSuper x && ap.endLine == p.line
 | .bin op a b, y => onBinOp y fun x op' z _ => decide (op = op') && chk ns a x && chk ns b z
 | .neg a, y => onUnaryOp y fun op x _ => decide (op = .USub) && chk ns a x
 | .not a, y => onUnaryOp y fun op x _ => decide (op = .Not) && chk ns a x
 | .cmp op a b, y => onCompare y fun x ops ys _ => on1 ops fun op' => on1 ys fun z => decide (op = op') && chk ns a x && chk ns b z && !behindInMarks op' z
 | .and es, y => onBoolOp y fun op xs _ => decide (op = .And) && chks ns es xs && !xs.isEmpty
 | .or es, y => onBoolOp y fun op xs _ => decide (op = .Or) && chks ns es xs && !xs.isEmpty
 | .ite c a b, y => onIfExp y fun x z u _ => chk ns c x && chk ns a z && chk ns b u
 | .comp cap elt ts its ifs, y => onListComp y fun x gs scope _ => chkCap scope ns cap && chk (inner scope.names ns) elt x && chkTs (inner scope.names ns) ts gs && chkIts ns (inner scope.names ns) its gs && chkIfs (inner scope.names ns) ifs gs
noncomputable def chks (ns : Names) : List IE → List Expr → Bool
 | [], xs => xs.isEmpty
 | e :: es, xs => onCons xs fun x xs => chk ns e x && notStar x && chks ns es xs
noncomputable def chkks (ns : Names) : List IE → List (Option Expr) → Bool
 | [], xs => xs.isEmpty
 | e :: es, xs => onCons xs fun o xs => onSome o (fun x => chk ns e x) && chkks ns es xs
noncomputable def chkIts (out ns : Names) : List IE → List Comprehension → Bool
 | [], gs => gs.isEmpty
 | i :: is, gs => onCons gs fun g gs => decide (g.is_async = 0) && chk out i g.iter && notSet g.iter && chkIts ns ns is gs
noncomputable def chkIfs (ns : Names) : List (List IE) → List Comprehension → Bool
 | [], gs => gs.isEmpty
 | f :: fs, gs => onCons gs fun g gs => chks ns f g.ifs && chkIfs ns fs gs
end
noncomputable def chkgs (out ns : Names) (ts : List Tg) (is : List IE) (fs : List (List IE)) (gs : List Comprehension) : Bool := chkTs ns ts gs && chkIts out ns is gs && chkIfs ns fs gs
inductive Cl (out ns : Names) (t : Tg) (ts : List Tg) (i : IE) (is : List IE) (f : List IE) (fs : List (List IE)) (gs : List Comprehension) : Prop where
 | mk (te ie : Expr) (fx : List Expr) (gs' : List Comprehension) (e : gs = ⟨te, ie, fx, 0⟩ :: gs') (ht : chkT ns t te = true) (hl : chkTL ns t = true) (hi : chk out i ie = true) (hs : notSet ie = true) (hf : chks ns f fx = true) (hr : chkgs ns ns ts is fs gs' = true)
theorem chkgs_inv {out ns : Names} {t : Tg} {ts : List Tg} {i : IE} {is : List IE} {f : List IE} {fs : List (List IE)} {gs : List Comprehension} (h : chkgs out ns (t :: ts) (i :: is) (f :: fs) gs = true) : Cl out ns t ts i is f fs gs := by
 obtain ⟨h1, h2, h3⟩ := and3 h
 obtain ⟨g, r, rfl, h1⟩ := onCons_inv h1
 have h2 := and4 (h2 : (_ && _ && _ && _) = true)
 have h3 := and2 (h3 : (_ && _) = true)
 have h1 := and3 h1
 obtain ⟨te, ie, fx, z⟩ := g
 have e : z = 0 := of_decide_eq_true h2.1
 subst e
 exact ⟨te, ie, fx, r, rfl, h1.1, h1.2, h2.2, h2.3, h3.1, congr (congrArg and (congr (congrArg and h1.3) h2.4)) h3.2⟩
noncomputable def notComp (e : Expr) : Bool := !(Nat.beq e.ctorIdx 8 || Nat.beq e.ctorIdx 9 || Nat.beq e.ctorIdx 10)
noncomputable def plainTup (e : Expr) : Bool := if h : e.ctorIdx = 25 then PySem.Expr.Tuple.elim (motive_1 := fun _ => Bool) e h (fun vs _ _ => vs.all (foldedForSure 8) || !vs.all (constantsAlone 8)) else true
mutual
noncomputable def chkS (ns : Names) : IS → Stmt → Bool
 | .expr e, y => onSExpr y fun x _ => chk ns e x && notComp x
 | .setv i e, y => onSAssign y fun ts x _ => on1 ts fun t => chkN ns i t && chk ns e x && notComp x
 | .setc i e, y => onSAssign y fun ts x _ => on1 ts fun t => chkN ns i t && chk ns e x && !notComp x
 | .sett is e, y => onSAssign y fun ts x _ => on1 ts fun t => onTuple t fun ts _ _ => chkNs ns is ts && chk ns e x && plainTup x && notComp x && decide is.Nodup
 | .seta o a e, y => onSAssign y fun ts x _ => on1 ts fun t => onAttribute t fun ox nm _ => chk ns o ox && decide (tab[a]? = some nm) && chk ns e x && notComp x
 | .seti o i e, y => onSAssign y fun ts x _ => on1 ts fun t => onSubscript t fun ox ix _ => chk ns o ox && chk ns i ix && notSlice ix && chk ns e x && notComp x
 | .ite c a b, y => onSIf y fun x ys zs _ => chk ns c x && chkSs ns a ys && chkSs ns b zs
 | .while c b, y => onSWhile y fun x ys zs _ => zs.isEmpty && chk ns c x && chkSs ns b ys
 | .for t e b, y => onSFor y fun tx x ys zs _ => zs.isEmpty && chkT ns t tx && chk ns e x && notSet x && chkSs ns b ys
 | .ret e, y => onSReturn y fun o _ => onSome o fun x => chk ns e x
 | .cont, y => onSContinue y fun _ => true
noncomputable def chkSs (ns : Names) : List IS → List Stmt → Bool
 | [], xs => xs.isEmpty
 | s :: ss, xs => onCons xs fun x xs => chkS ns s x && chkSs ns ss xs
end
example : chk [] (.tup [.lit .none]) (.Tuple [.Constant .none 0 default] 0 default) = true := by decide +kernel
example : chk [] (.tup [.lit .none]) (.Tuple [.Constant .none 0 default] 0 default) = true := rfl
structure Frm where
 env : Env
 D : List Addr
 own : Bool
structure FrmOk (C : Cx) (F : Frm) : Prop where
 kind : F.env.scope.kind = .function
 globals : F.env.globals = mainGlobals
 builtins : F.env.builtins = builtinsNs
 locals : F.env.locals ∈ F.D
 above : ∀ a ∈ F.D, C.h₀.objs.size ≤ a
 cell : F.own = true → ∀ x c, F.env.kindOf x = some .cell → F.env.cells.lookup x = some c → c ∈ F.D ∧ c ≠ F.env.locals
 cells : F.own = true → ∀ x y c, F.env.kindOf x = some .cell → F.env.cells.lookup x = some c → F.env.cells.lookup y = some c → x = y
noncomputable def Room (A : Around) (n : Nat) : Prop := A.handled = none ∧ A.depth + n < recursionLimit ∧ A.units + 4 * n + 200 < cLine
theorem Room.mono {A : Around} {n m : Nat} (r : Room A n) (h : m ≤ n) : Room A m := ⟨r.1, by have := r.2.1; lia, by have := r.2.2; lia⟩
theorem Room.deeper {A : Around} {n : Nat} {env : Env} (r : Room A (n + 1)) : Room (A.deeper env) n := ⟨r.1, by have := r.2.1; show A.depth + 1 + n < _; lia, by have := r.2.2; show A.units + 3 + 4 * n + 200 < cLine; lia⟩
theorem Room.in1 {A : Around} {n : Nat} (r : Room A (n + 1)) : Room A.in1 n := ⟨r.1, by have := r.2.1; show A.depth + n < _; lia, by have := r.2.2; show A.units + 1 + 4 * n + 200 < cLine; lia⟩
theorem Room.depth {A : Around} {n : Nat} (r : Room A n) : A.depth < recursionLimit := by have := r.2.1; lia
theorem Room.units {A : Around} {n : Nat} (r : Room A n) : A.units + 200 < cLine := by have := r.2.2; lia
noncomputable def VarsR (ι : List Addr) (h : Heap) (env : Env) (ρ : List (Nat × MV)) : Prop :=
 ∃ m, h.Ns env.locals m ∧ ∀ i x, tab[i]? = some x → match env.kindOf x with
  | some .local => ∀ v, alook ρ i = some v → ∃ rv, m x = some rv ∧ VR ι h v rv
  | some .cell | some .free => ∃ c o vo, env.cells.lookup x = some c ∧ h.get? c = some o ∧ o.data = .cell vo ∧ ∀ v, alook ρ i = some v → ∃ rv, vo = some rv ∧ VR ι h v rv
  | _ => True
structure At (C : Cx) (F : Frm) (ι : List Addr) (σ : MH) (ρ : List (Nat × MV)) (h : Heap) : Prop where
 rel : Rel C ι σ h
 vars : VarsR ι h F.env ρ
 dok : DOk F.D ι h
structure Stp (D ι : List Addr) (s : Shared) (ι' : List Addr) (s' : Shared) : Prop where
 heap : Step D ι s.heap ι' s'.heap
 gens : s'.gens = s.gens
 os : s'.os = s.os
namespace Stp
variable {D ι ι' ι'' : List Addr} {s s' s'' : Shared}
theorem refl (D ι : List Addr) (s : Shared) : Stp D ι s ι s := ⟨.refl .., rfl, rfl⟩
theorem trans (S : Stp D ι s ι' s') (S' : Stp D ι' s' ι'' s'') : Stp D ι s ι'' s'' := ⟨S.heap.trans S'.heap, S'.gens.trans S.gens, S'.os.trans S.os⟩
theorem weak (S : Stp D ι s ι' s') {D' : List Addr} (hd : ∀ a ∈ D, a ∈ D') : Stp D' ι s ι' s' := ⟨S.heap.weak hd, S.gens, S.os⟩
theorem any (S : Stp [] ι s ι' s') {D' : List Addr} : Stp D' ι s ι' s' := S.weak fun _ h => nomatch h
theorem clean (S : Stp D ι s ι' s') {D' : List Addr} (hd : ∀ a ∈ D, a ∈ D' ∨ s.heap.objs.size ≤ a) : Stp D' ι s ι' s' := ⟨S.heap.clean hd, S.gens, S.os⟩
end Stp
theorem VarsR.step {C : Cx} {F : Frm} {ι ι' : List Addr} {σ : MH} {h h' : Heap} {ρ : List (Nat × MV)} (x : VarsR ι h F.env ρ) (ok : FrmOk C F) (R : Rel C ι σ h) (X : DOk F.D ι h) (S : Step [] ι h ι' h') : VarsR ι' h' F.env ρ := by
 obtain ⟨m, hn, hv⟩ := x
 have hi : ∀ b o, Imm o → h.get? b = some o → h'.get? b = some o := S.imm R .nil
 have hL : ∀ o, h.get? F.env.locals = some o → h'.get? F.env.locals = some o := fun o e => S.keep _ _ (X _ ok.locals).1 (by simp) e
 refine ⟨m, hn.at' hL, fun i y hy => ?_⟩
 have := hv i y hy
 have cellCase : (∃ c o vo, F.env.cells.lookup y = some c ∧ h.get? c = some o ∧ o.data = .cell vo ∧ ∀ v, alook ρ i = some v → ∃ rv, vo = some rv ∧ VR ι h v rv) →
   ∃ c o vo, F.env.cells.lookup y = some c ∧ h'.get? c = some o ∧ o.data = .cell vo ∧ ∀ v, alook ρ i = some v → ∃ rv, vo = some rv ∧ VR ι' h' v rv := by
  rintro ⟨c, o, vo, h1, h2, h4, h5⟩
  exact ⟨c, o, vo, h1, S.keep _ _ (R.offCell h2 h4) (by simp) h2, h4, fun v hv => let ⟨rv, a, b⟩ := h5 v hv; ⟨rv, a, b.map (fun _ _ e => S.get? e) hi⟩⟩
 revert this
 cases F.env.kindOf y with
 | none => exact id
 | some k =>
  cases k with
  | «local» => intro this v hv; obtain ⟨rv, h1, h2⟩ := this v hv; exact ⟨rv, h1, h2.map (fun _ _ e => S.get? e) hi⟩
  | cell => exact cellCase
  | free => exact cellCase
  | globalExplicit => exact id
  | globalImplicit => exact id
theorem DOk.step {D ι ι' : List Addr} {h h' : Heap} (X : DOk D ι h) (S : Step [] ι h ι' h') : DOk D ι' h' := fun a ha => by
 obtain ⟨h1, o, h2, h3⟩ := X a ha
 exact ⟨S.notMem h1 (Heap.lt_size h2), o, S.keep _ _ h1 (by simp) h2, h3⟩
theorem At.step {C : Cx} {F : Frm} {ι ι' : List Addr} {σ σ' : MH} {ρ : List (Nat × MV)} {h h' : Heap} (x : At C F ι σ ρ h) (ok : FrmOk C F) (R' : Rel C ι' σ' h') (S : Step [] ι h ι' h') : At C F ι' σ' ρ h' :=
 ⟨R', x.vars.step ok x.rel x.dok S, DOk.step x.dok S⟩
inductive Post (C : Cx) (ι : List Addr) (s : Shared) (v : MV) (σ' : MH) (rv : Value) (s' : Shared) : Prop where
 | mk (ι' : List Addr) (R : Rel C ι' σ' s'.heap) (V : VR ι' s'.heap v rv) (S : Stp [] ι s ι' s')
inductive PostU (C : Cx) (ι : List Addr) (s : Shared) (σ' : MH) (s' : Shared) : Prop where
 | mk (ι' : List Addr) (R : Rel C ι' σ' s'.heap) (S : Stp [] ι s ι' s')
noncomputable def PostB (C : Cx) (ι : List Addr) (s : Shared) (b : Bool) (σ' : MH) (rb : Bool) (s' : Shared) : Prop := rb = b ∧ PostU C ι s σ' s'
inductive PostL (C : Cx) (ι : List Addr) (s : Shared) (vs : List MV) (σ' : MH) (rvs : List Value) (s' : Shared) : Prop where
 | mk (ι' : List Addr) (R : Rel C ι' σ' s'.heap) (V : VRs ι' s'.heap vs rvs) (S : Stp [] ι s ι' s')
noncomputable def Ev (C : Cx) (n : Nat) (ie : IE) (ρ : List (Nat × MV)) (σ : MH) (v : MV) (σ' : MH) : Prop :=
 ∀ (F : Frm) (e : Expr) (A : Around) (ι : List Addr) (s : Shared), chk F.env.scope.names ie e = true → FrmOk C F → Room A n → At C F ι σ ρ s.heap →
  wpAny (model C.prog C.w) A (eval e F.env) (Post C ι s v σ') (fun _ _ => False) s
noncomputable def EvL (C : Cx) (n : Nat) (ies : List IE) (ρ : List (Nat × MV)) (σ : MH) (vs : List MV) (σ' : MH) : Prop :=
 ∀ (F : Frm) (es : List Expr) (pos : Pos) (A : Around) (ι : List Addr) (s : Shared), chks F.env.scope.names ies es = true → FrmOk C F → Room A n → At C F ι σ ρ s.heap →
  wpAny (model C.prog C.w) A (spliced (backTo pos (starEach es F.env))) (PostL C ι s vs σ') (fun _ _ => False) s
noncomputable def Tst (C : Cx) (n : Nat) (ie : IE) (ρ : List (Nat × MV)) (σ : MH) (b : Bool) (σ' : MH) : Prop :=
 ∀ (F : Frm) (e : Expr) (A : Around) (ι : List Addr) (s : Shared), chk F.env.scope.names ie e = true → FrmOk C F → Room A n → At C F ι σ ρ s.heap →
  wpAny (model C.prog C.w) A (isTrue e F.env (eval e F.env)) (PostB C ι s b σ') (fun _ _ => False) s
noncomputable def Op (C : Cx) (n : Nat) (vs : List MV) (σ : MH) (f : List Value → Sem Value) (v : MV) (σ' : MH) : Prop :=
 ∀ (A : Around) (ι : List Addr) (s : Shared) (rvs : List Value), Room A n → Rel C ι σ s.heap → VRs ι s.heap vs rvs → wpAny (model C.prog C.w) A (f rvs) (Post C ι s v σ') (fun _ _ => False) s
noncomputable def CallEv (C : Cx) (n : Nat) (fv : Value) (vs : List MV) (σ : MH) (v : MV) (σ' : MH) : Prop :=
 Op C n vs σ (fun rvs => call fv rvs []) v σ'
inductive Fl where
 | next | cont | ret (v : MV)
noncomputable def FlR (ι : List Addr) (h : Heap) : Fl → Flow → Prop
 | .next, f => f = .next
 | .cont, f => f = .cont
 | .ret v, f => ∃ rv, f = .ret rv ∧ VR ι h v rv
inductive PostX (C : Cx) (F : Frm) (ι : List Addr) (s : Shared) (fl : Fl) (ρ' : List (Nat × MV)) (σ' : MH) (f : Flow) (s' : Shared) : Prop where
 | mk (ι' : List Addr) (A : At C F ι' σ' ρ' s'.heap) (L : FlR ι' s'.heap fl f) (S : Stp F.D ι s ι' s')
noncomputable def X1 (C : Cx) (n : Nat) (is : IS) (ρ : List (Nat × MV)) (σ : MH) (fl : Fl) (ρ' : List (Nat × MV)) (σ' : MH) : Prop :=
 ∀ (F : Frm) (st : Stmt) (A : Around) (ι : List Addr) (s : Shared), chkS F.env.scope.names is st = true → FrmOk C F → F.own = true → Room A n → At C F ι σ ρ s.heap →
  wpAny (model C.prog C.w) A (exec st F.env) (PostX C F ι s fl ρ' σ') (fun _ _ => False) s
noncomputable def Xs (C : Cx) (n : Nat) (ss : List IS) (ρ : List (Nat × MV)) (σ : MH) (fl : Fl) (ρ' : List (Nat × MV)) (σ' : MH) : Prop :=
 ∀ (F : Frm) (sts : List Stmt) (A : Around) (ι : List Addr) (s : Shared), chkSs F.env.scope.names ss sts = true → FrmOk C F → F.own = true → Room A n → At C F ι σ ρ s.heap →
  wpAny (model C.prog C.w) A (execs sts F.env) (PostX C F ι s fl ρ' σ') (fun _ _ => False) s
theorem star1 {x : Expr} {xs : List Expr} {env : Env} (h : notStar x = true) : starEach (x :: xs) env = (false, eval x env) :: starEach xs env := by cases x <;> first | rfl | exact ff h
end Mine
namespace Mine
open PySem PySem.W PyProof.Rows PySem.Calls
section
variable {C : Cx} {n : Nat} {ρ : List (Nat × MV)} {σ σ₁ σ₂ σ₃ : MH} {v v₁ v₂ : MV}
theorem post_same {ι : List Addr} {σ : MH} {s s' : Shared} {v : MV} {rv : Value} (R : Rel C ι σ s.heap) (hk : ∀ b o, s.heap.get? b = some o → s'.heap.get? b = some o) (hs : s.heap.objs.size ≤ s'.heap.objs.size)
  (hv : VR ι s'.heap v rv) (hg : s'.gens = s.gens) (ho : s'.os = s.os) : Post C ι s v σ rv s' :=
 ⟨ι, R.same hk hs, hv, .same hk hs, hg, ho⟩
theorem post_here {ι : List Addr} {σ : MH} {s : Shared} {v : MV} {rv : Value} {tk : Nat} (R : Rel C ι σ s.heap) (hv : VR ι s.heap v rv) : Post C ι s v σ rv { s with toks := tk } :=
 post_same R (fun _ _ e => e) (Nat.le_refl _) hv rfl rfl
theorem post_tup {ι : List Addr} {σ : MH} {s : Shared} {xs : List MV} {vs : List Value} (R : Rel C ι σ s.heap) (hv : VRs ι s.heap xs vs) :
  Post C ι s (.tup xs) σ (.ref s.heap.objs.size) { s with heap := s.heap.push { cls := .type "tuple", data := .seq vs.toArray } } := by
 have hk : ∀ b o, s.heap.get? b = some o → (s.heap.push { cls := .type "tuple", data := .seq vs.toArray }).get? b = some o := fun b o e => Heap.get?_push_of_some _ e
 refine post_same R hk (by simp) ?_ rfl rfl
 exact ⟨_, _, _, rfl, Heap.get?_push_size _ rfl, by simpa using VRs.map (fun _ _ e => e) (fun b o _ e => hk b o e) hv⟩
theorem post_list {ι : List Addr} {σ : MH} {s : Shared} {xs : List MV} {vs : List Value} (R : Rel C ι σ s.heap) (hv : VRs ι s.heap xs vs) (hz : xs.length ≤ sizeLine) :
  Post C ι s (.loc σ.length) (σ ++ [.list xs]) (.ref s.heap.objs.size) { s with heap := s.heap.push { cls := .type "list", data := .seq vs.toArray } } := by
 have hk : ∀ b o, s.heap.get? b = some o → (s.heap.push { cls := .type "list", data := .seq vs.toArray }).get? b = some o := fun b o e => Heap.get?_push_of_some _ e
 refine ⟨ι ++ [s.heap.objs.size], R.new (Nat.le_refl _) hk (by simp) (Heap.get?_push_size _ rfl) ?_, ?_, .new (Nat.le_refl _) hk (by simp), rfl, rfl⟩
 ·exact ⟨rfl, rfl, rfl, _, _, rfl, by simpa using hv, hz⟩
 ·exact ⟨_, rfl, by rw [← R.len]; exact List.getElem?_concat_length ..⟩
theorem post_dict {ι : List Addr} {σ : MH} {s : Shared} (R : Rel C ι σ s.heap) :
  Post C ι s (.loc σ.length) (σ ++ [.dict 0 []]) (.ref s.heap.objs.size) { s with heap := s.heap.push { cls := .type "dict", data := .dict #[] } } := by
 have hk : ∀ b o, s.heap.get? b = some o → (s.heap.push { cls := .type "dict", data := .dict #[] }).get? b = some o := fun b o e => Heap.get?_push_of_some _ e
 refine ⟨ι ++ [s.heap.objs.size], R.new (Nat.le_refl _) hk (by simp) (Heap.get?_push_size _ rfl) ?_, ?_, .new (Nat.le_refl _) hk (by simp), rfl, rfl⟩
 ·exact ⟨⟨rfl, rfl, rfl⟩, ⟨.inl (by simp), by simp⟩, _, rfl, by first | exact rfl | exact ⟨_, rfl⟩, Nat.zero_le _⟩
 ·exact ⟨_, rfl, by rw [← R.len]; exact List.getElem?_concat_length ..⟩
theorem Ev.lit (hv : ∀ xs, v ≠ .tup xs := by intro _; nofun) : Ev C n (.lit v) ρ σ v σ := by
 intro F e A ι s hc _ _ ha
 replace hc := onConstant_inv hc; obtain ⟨c, k, pos, rfl, hc⟩ := hc
 cases v <;> cases c <;> first | exact ff hc | skip
 ·exact wpAny_Constant_none (post_here ha.rel (by first | exact rfl | exact ⟨_, rfl⟩))
 ·rw [eq_of_beq hc]; exact wpAny_Constant_bool (post_here ha.rel (by first | exact rfl | exact ⟨_, rfl⟩))
 ·rw [of_decide_eq_true hc]; exact wpAny_Constant_int (post_here ha.rel (by first | exact rfl | exact ⟨_, rfl⟩))
 ·exact wpAny_Constant_str (post_here ha.rel ⟨_, _, of_decide_eq_true hc, rfl⟩)
 ·rw [eval_Constant]
  show wpAny _ _ (mkTextBytes _) _ _ _
  unfold mkTextBytes
  exact wpAny_bind (wpAny_fresh (wpAny_pure (post_here ha.rel ⟨_, by rw [of_decide_eq_true hc]⟩)))
theorem load_var {F : Frm} {A : Around} {ι : List Addr} {s : Shared} {i : Nat} {x : Str} {Q : Value → Shared → Prop} (hi : tab[i]? = some x) (hx : isVar F.env.scope.names x = true) (ok : FrmOk C F) (ha : At C F ι σ ρ s.heap)
  (hv : alook ρ i = some v) (hn : (x == ("__classdict__" : Str)) = false) (h : ∀ rv, VR ι s.heap v rv → Q rv s) : wpAny (model C.prog C.w) A (loadName F.env x) Q (fun _ _ => False) s := by
 obtain ⟨m, hm, hr⟩ := ha.vars
 have := hr i x hi
 have hxk : ∃ k, F.env.kindOf x = some k ∧ (k = .local ∨ k = .cell ∨ k = .free) := by
  unfold isVar at hx
  unfold Env.kindOf
  cases hl : F.env.scope.names.lookup x with
  | none => rw [hl] at hx; cases hx
  | some k => rw [hl] at hx; refine ⟨k, rfl, ?_⟩; cases k <;> simp at hx ⊢
 obtain ⟨k, hk, hk'⟩ := hxk
 rw [hk] at this
 rcases hk' with rfl | rfl | rfl
 ·obtain ⟨rv, h1, h2⟩ := this v hv
  exact wpAny_loadName_local ok.kind hk hm h1 (h rv h2)
 ·obtain ⟨c, o, vo, h1, h2, h4, h5⟩ := this
  obtain ⟨rv, rfl, h6⟩ := h5 v hv
  exact wpAny_loadName_cell ok.kind hk h1 ⟨o, h2, h4⟩ (h rv h6)
 ·obtain ⟨c, o, vo, h1, h2, h4, h5⟩ := this
  obtain ⟨rv, rfl, h6⟩ := h5 v hv
  exact wpAny_loadName_free ok.kind hk h1 ⟨o, h2, h4⟩ (h rv h6) hn
theorem tab_noClassdict : (tab.all fun x => !(x == ("__classdict__" : Str))) = true := by decide +kernel
theorem tab_noDebug : (tab.all fun x => !(x == ("__debug__" : Str))) = true := by decide +kernel
theorem no_classdict {i : Nat} {x : Str} (h : tab[i]? = some x) : (x == ("__classdict__" : Str)) = false := by
 have := List.all_eq_true.mp tab_noClassdict x (List.mem_of_getElem? h)
 simpa using this
theorem Ev.var {i : Nat} (hv : alook ρ i = some v) : Ev C n (.var i) ρ σ v σ := by
 intro F e A ι s hc ok _ ha
 replace hc := onName_inv hc; obtain ⟨id, pos, rfl, hc⟩ := hc
 obtain ⟨h1, h2, h3⟩ := and3 hc
 exact wpAny_Name (load_var (of_decide_eq_true h1) h2 ok ha hv (no_classdict (of_decide_eq_true h1)) fun rv hr => ⟨ι, ha.rel, hr, .refl ..⟩) (nott h3)
noncomputable def GOk (C : Cx) (i : Nat) (v : MV) : Prop :=
 ∃ x rv, tab[i]? = some x ∧ (C.mg x = some rv ∨ (C.mg x = none ∧ C.mb x = some rv)) ∧ ∀ ι h, (∀ b o, C.h₀.get? b = some o → h.get? b = some o) → VR ι h v rv
theorem Ev.glob {i : Nat} (hg : GOk C i v) : Ev C n (.glob i) ρ σ v σ := by
 intro F e A ι s hc ok _ ha
 obtain ⟨x, rv, h1, h2, h3⟩ := hg
 replace hc := onName_inv hc; obtain ⟨id, pos, rfl, hc⟩ := hc
 obtain ⟨hc1, hc2, hc3⟩ := and3 hc
 have hc2 := LawfulBEq.eq_of_beq hc2
 have hc3 := nott hc3
 cases h1.symm.trans (of_decide_eq_true hc1)
 have hp : Post C ι s v σ rv s := ⟨ι, ha.rel, h3 ι _ ha.rel.keep, .refl ..⟩
 have T := ha.rel.top
 have Tg : s.heap.Ns F.env.globals C.mg := ok.globals ▸ T.g
 have Tb : s.heap.Ns F.env.builtins C.mb := ok.builtins ▸ T.b
 rcases h2 with h2 | ⟨h2, h4⟩
 ·exact Name_function_global ok.kind hc2 (loadGlobal_global Tg h2 hp) hc3
 ·exact Name_function_global ok.kind hc2 (loadGlobal_builtin Tg h2 Tb h4 hp) hc3
theorem EvL.nil : EvL C n [] ρ σ [] σ := by
 intro F es pos A ι s hc _ _ ha
 have := nil_inv hc; subst this
 exact wpAny_items_nil ⟨ι, ha.rel, .nil, .refl ..⟩
theorem EvL.cons {e : IE} {es : List IE} {vs : List MV} (h : Ev C n e ρ σ v σ₁) (hs : EvL C n es ρ σ₁ vs σ₂) : EvL C n (e :: es) ρ σ (v :: vs) σ₂ := by
 intro F xs pos A ι s hc ok r ha
 replace hc := onCons_inv hc; obtain ⟨x, xs, rfl, hc⟩ := hc
 replace hc := and3 hc
 refine wpAny_items_cons (wpAny_mono (h F x A ι s hc.1 ok r ha) (fun rv s₁ h₁ => ?_) fun _ _ x => x) (star1 hc.2)
 obtain ⟨ι₁, R₁, V₁, S₁⟩ := h₁
 refine wpAny_mono (hs F xs pos A ι₁ s₁ hc.3 ok r (ha.step ok R₁ S₁.heap)) (fun rvs s₂ h₂ => ?_) fun _ _ x => x
 obtain ⟨ι₂, R₂, V₂, S₂⟩ := h₂
 exact ⟨ι₂, R₂, .cons (V₁.step R₁ .nil S₂.heap) V₂, S₁.trans S₂⟩
theorem Ev.tup {es : List IE} {vs : List MV} (h : EvL C n es ρ σ vs σ₁) (hz : vs.length ≤ 64 := by exact lt64 rfl) : Ev C n (.tup es) ρ σ (.tup vs) σ₁ := by
 intro F e A ι s hc ok r ha
 replace hc := onTuple_inv hc; obtain ⟨xs, k, pos, rfl, hc⟩ := hc
 refine wpAny_Tuple (wpAny_mono (h F _ _ A ι s hc ok r ha) (fun rvs s₁ h₁ => ?_) fun _ _ x => x)
 obtain ⟨ι₁, R₁, V₁, S₁⟩ := h₁
 refine ⟨by rw [V₁.length, sizeLine_eq]; lia, ?_⟩
 obtain ⟨ι₂, R₂, V₂, S₂⟩ := post_tup R₁ V₁
 exact ⟨ι₂, R₂, V₂, S₁.trans S₂⟩
theorem Ev.list {es : List IE} {vs : List MV} (h : EvL C n es ρ σ vs σ₁) (hz : vs.length ≤ 64 := by exact lt64 rfl) : Ev C n (.list es) ρ σ (.loc σ₁.length) (σ₁ ++ [.list vs]) := by
 intro F e A ι s hc ok r ha
 replace hc := onList_inv hc; obtain ⟨xs, pos, rfl, hc⟩ := hc
 refine wpAny_List (wpAny_mono (h F _ _ A ι s hc ok r ha) (fun rvs s₁ h₁ => ?_) fun _ _ x => x)
 obtain ⟨ι₁, R₁, V₁, S₁⟩ := h₁
 refine ⟨by rw [V₁.length, sizeLine_eq]; lia, ?_⟩
 obtain ⟨ι₂, R₂, V₂, S₂⟩ := post_list R₁ V₁ (by rw [sizeLine_eq]; lia)
 exact ⟨ι₂, R₂, V₂, S₁.trans S₂⟩
theorem Ev.bin {op : Operator} {a b : IE} (h1 : Ev C n a ρ σ v₁ σ₁) (h2 : Ev C n b ρ σ₁ v₂ σ₂) (h : Op C n [v₁, v₂] σ₂ (fun vs => binaryOp op (vs.getD 0 .none) (vs.getD 1 .none)) v σ₃) : Ev C n (.bin op a b) ρ σ v σ₃ := by
 intro F e A ι s hc ok r ha
 replace hc := onBinOp_inv hc; obtain ⟨x, op', y, pos, rfl, hc⟩ := hc
 obtain ⟨c0, c1, c2⟩ := and3 hc
 have c0 := of_decide_eq_true c0; subst c0
 refine wpAny_BinOp (wpAny_mono (h1 F _ A ι s c1 ok r ha) (fun rv s₁ p₁ => ?_) fun _ _ x => x)
 obtain ⟨ι₁, R₁, V₁, S₁⟩ := p₁
 refine wpAny_mono (h2 F _ A ι₁ s₁ c2 ok r (ha.step ok R₁ S₁.heap)) (fun rv' s₂ p₂ => ?_) fun _ _ x => x
 obtain ⟨ι₂, R₂, V₂, S₂⟩ := p₂
 refine wpAny_mono (h A ι₂ s₂ [rv, rv'] r R₂ (.cons (V₁.step R₁ .nil S₂.heap) (.cons V₂ .nil))) (fun rv'' s₃ p₃ => ?_) fun _ _ x => x
 obtain ⟨ι₃, R₃, V₃, S₃⟩ := p₃
 exact ⟨ι₃, R₃, V₃, S₁.trans (S₂.trans S₃)⟩
theorem Ev.un {op : IE → IE} {uop : UnaryOp} {a : IE} (hop : ∀ ns e, chk ns (op a) e = true → E2 fun x pos => e = .UnaryOp uop x pos ∧ chk ns a x = true) (h1 : Ev C n a ρ σ v₁ σ₁)
  (h : Op C n [v₁] σ₁ (fun vs => unaryOp uop (vs.getD 0 .none)) v σ₂) : Ev C n (op a) ρ σ v σ₂ := by
 intro F e A ι s hc ok r ha
 obtain ⟨x, pos, rfl, hc'⟩ := hop _ _ hc
 refine wpAny_UnaryOp (wpAny_mono (h1 F _ A ι s hc' ok r ha) (fun rv s₁ p₁ => ?_) fun _ _ x => x)
 obtain ⟨ι₁, R₁, V₁, S₁⟩ := p₁
 refine wpAny_mono (h A ι₁ s₁ [rv] r R₁ (.cons V₁ .nil)) (fun rv'' s₃ p₃ => ?_) fun _ _ x => x
 obtain ⟨ι₃, R₃, V₃, S₃⟩ := p₃
 exact ⟨ι₃, R₃, V₃, S₁.trans S₃⟩
theorem chk_un {uop : UnaryOp} {ns : Names} {a : IE} {e : Expr} (h : onUnaryOp e (fun op x _ => decide (op = uop) && chk ns a x) = true) : E2 fun x pos => e = .UnaryOp uop x pos ∧ chk ns a x = true := by
 replace h := onUnaryOp_inv h; obtain ⟨op, x, pos, rfl, h⟩ := h
 have q := of_decide_eq_true (and2 h).1
 exact ⟨_, _, by rw [q], (and2 h).2⟩
theorem chk_cmp {ns : Names} {op : CmpOp} {a b : IE} {e : Expr} (h : chk ns (.cmp op a b) e = true) : Y3 (fun x y pos => e = .Compare x [op] [y] pos) fun x y _ => N3 (chk ns a x = true) (chk ns b y = true) (behindInMarks op y = false) := by
 replace h := onCompare_inv h; obtain ⟨x, ops, ys, pos, rfl, h⟩ := h
 replace h := on1_inv h; obtain ⟨op', rfl, h⟩ := h
 replace h := on1_inv h; obtain ⟨y, rfl, h⟩ := h
 obtain ⟨h0, h1, h2, h3⟩ := and4 h
 have h0 := of_decide_eq_true h0; subst h0
 exact ⟨_, _, _, rfl, h1, h2, nott h3⟩
theorem Ev.neg {a : IE} {k : Int} (h1 : Ev C n a ρ σ (.int k) σ₁) : Ev C n (.neg a) ρ σ (.int (-k)) σ₁ := by
 refine Ev.un (op := .neg) (fun ns e h => chk_un h) h1 fun A ι s rvs r R V => ?_
 obtain ⟨_, _, rfl, ⟨tk, rfl⟩, rfl⟩ := V
 exact neg_int (post_here R (by first | exact rfl | exact ⟨_, rfl⟩))
theorem Ev.cmp {op : CmpOp} {a b : IE} (h1 : Ev C n a ρ σ v₁ σ₁) (h2 : Ev C n b ρ σ₁ v₂ σ₂) (h : Op C n [v₁, v₂] σ₂ (fun vs => compareOp op (vs.getD 0 .none) (vs.getD 1 .none)) v σ₃) : Ev C n (.cmp op a b) ρ σ v σ₃ := by
 intro F e A ι s hc ok r ha
 replace hc := chk_cmp hc; obtain ⟨x, y, pos, rfl, c1, c2, c3⟩ := hc
 refine wpAny_Compare1 (wpAny_mono (h1 F _ A ι s c1 ok r ha) (fun rv s₁ p₁ => ?_) fun _ _ x => x) (by rw [c3])
 obtain ⟨ι₁, R₁, V₁, S₁⟩ := p₁
 refine wpAny_mono (h2 F _ A ι₁ s₁ c2 ok r (ha.step ok R₁ S₁.heap)) (fun rv' s₂ p₂ => ?_) fun _ _ x => x
 obtain ⟨ι₂, R₂, V₂, S₂⟩ := p₂
 refine wpAny_mono (h A ι₂ s₂ [rv, rv'] r R₂ (.cons (V₁.step R₁ .nil S₂.heap) (.cons V₂ .nil))) (fun rv'' s₃ p₃ => ?_) fun _ _ x => x
 obtain ⟨ι₃, R₃, V₃, S₃⟩ := p₃
 exact ⟨ι₃, R₃, V₃, S₁.trans (S₂.trans S₃)⟩
theorem Tst.cmp {op : CmpOp} {a b : IE} {t : Bool} (h1 : Ev C n a ρ σ v₁ σ₁) (h2 : Ev C n b ρ σ₁ v₂ σ₂) (h : Op C n [v₁, v₂] σ₂ (fun vs => compareOp op (vs.getD 0 .none) (vs.getD 1 .none)) (.bool t) σ₃) : Tst C n (.cmp op a b) ρ σ t σ₃ := by
 intro F e A ι s hc ok r ha
 replace hc := chk_cmp hc; obtain ⟨x, y, pos, rfl, c1, c2, c3⟩ := hc
 refine wpAny_isTrue_Compare1 (wpAny_mono (h1 F _ A ι s c1 ok r ha) (fun rv s₁ p₁ => ?_) fun _ _ x => x) (by rw [c3])
 obtain ⟨ι₁, R₁, V₁, S₁⟩ := p₁
 refine wpAny_mono (h2 F _ A ι₁ s₁ c2 ok r (ha.step ok R₁ S₁.heap)) (fun rv' s₂ p₂ => ?_) fun _ _ x => x
 obtain ⟨ι₂, R₂, V₂, S₂⟩ := p₂
 refine wpAny_mono (h A ι₂ s₂ [rv, rv'] r R₂ (.cons (V₁.step R₁ .nil S₂.heap) (.cons V₂ .nil))) (fun rv'' s₃ p₃ => ?_) fun _ _ x => x
 obtain ⟨ι₃, R₃, V₃, S₃⟩ := p₃
 have V₃ : _ = _ := V₃
 subst V₃
 exact wpAny_truthy_bool ⟨rfl, ι₃, R₃, S₁.trans (S₂.trans S₃)⟩
theorem Tst.not {a : IE} {t : Bool} (h : Tst C n a ρ σ t σ₁) : Tst C n (.not a) ρ σ (!t) σ₁ := by
 intro F e A ι s hc ok r ha
 replace hc := chk_un (uop := .Not) hc; obtain ⟨x, pos, rfl, c⟩ := hc
 exact wpAny_isTrue_Not (wpAny_mono (h F _ A ι s c ok r ha) (fun b s₁ p => ⟨by rw [p.1], p.2⟩) fun _ _ x => x)
noncomputable def plainTest (a : IE) : Bool := Nat.ble a.ctorIdx 2 || Nat.beq a.ctorIdx 6 || Nat.beq a.ctorIdx 7 || Nat.beq a.ctorIdx 9 || Nat.beq a.ctorIdx 10
noncomputable def plainE (e : Expr) : Bool := !(Nat.beq e.ctorIdx 0 || Nat.beq e.ctorIdx 3 || Nat.beq e.ctorIdx 5 || Nat.beq e.ctorIdx 15)
theorem isTrue_plain {e : Expr} {env : Env} {whole : Sem Value} (h : plainE e = true) : isTrue e env whole = (do let v ← whole; standAt e.pos; holding [v] (truthy v)) := by
 cases e <;> first | exact ff h | rfl
theorem plain_chk {ns : Names} {a : IE} {e : Expr} (hp : plainTest a = true) (hc : chk ns a e = true) : plainE e = true := by
 cases a <;> first
  | exact ff hp
  | (have h := onName_inv hc; obtain ⟨_, _, rfl, _⟩ := h; rfl)
  | (have h := onConstant_inv hc; obtain ⟨_, _, _, rfl, _⟩ := h; rfl)
  | (have h := onAttribute_inv hc; obtain ⟨_, _, _, rfl, _⟩ := h; rfl)
  | (have h := onSubscript_inv hc; obtain ⟨_, _, _, rfl, _⟩ := h; rfl)
  | (have h := onCall_inv hc; obtain ⟨_, _, _, _, rfl, _⟩ := h; rfl)
theorem Tst.val {a : IE} {t : Bool} (h : Ev C n a ρ σ (.bool t) σ₁) (hp : plainTest a = true := by rfl) : Tst C n a ρ σ t σ₁ := by
 intro F e A ι s hc ok r ha
 refine wpAny_isTrue_value (wpAny_mono (h F e A ι s hc ok r ha) (fun rv s₁ p => ?_) fun _ _ x => x) (isTrue_plain (plain_chk hp hc))
 obtain ⟨ι₁, R₁, V₁, S₁⟩ := p
 have V₁ : _ = _ := V₁; subst V₁
 exact wpAny_truthy_bool ⟨rfl, ι₁, R₁, S₁⟩
theorem chk_ite {ns : Names} {a b c : IE} {e : Expr} (h : chk ns (.ite a b c) e = true) : Y4 (fun x y z pos => e = .IfExp x y z pos) fun x y z _ => N3 (chk ns a x = true) (chk ns b y = true) (chk ns c z = true) := by
 replace h := onIfExp_inv h; obtain ⟨x, y, z, pos, rfl, h⟩ := h
 exact ⟨_, _, _, _, rfl, and3 h⟩
theorem Ev.ite {a b c : IE} {t : Bool} (h : Tst C n a ρ σ t σ₁) (h' : Ev C n (if t then b else c) ρ σ₁ v σ₂) : Ev C n (.ite a b c) ρ σ v σ₂ := by
 intro F e A ι s hc ok r ha
 replace hc := chk_ite hc; obtain ⟨x, y, z, pos, rfl, c1, c2, c3⟩ := hc
 refine wpAny_IfExp (wpAny_mono (h F _ A ι s c1 ok r ha) (fun b' s₁ p => ?_) fun _ _ x => x)
 obtain ⟨rfl, ι₁, R₁, S₁⟩ := p
 have fin : ∀ (e : Expr), wpAny (model C.prog C.w) A (eval e F.env) (Post C ι₁ s₁ v σ₂) (fun _ _ => False) s₁ → wpAny (model C.prog C.w) A (eval e F.env) (Post C ι s v σ₂) (fun _ _ => False) s₁ :=
  fun e w => wpAny_mono w (fun rv s₂ p₂ => by obtain ⟨ι₂, R₂, V₂, S₂⟩ := p₂; exact ⟨ι₂, R₂, V₂, S₁.trans S₂⟩) fun _ _ x => x
 cases b' with
 | true => exact fin _ (h' F _ A ι₁ s₁ c2 ok r (ha.step ok R₁ S₁.heap))
 | false => exact fin _ (h' F _ A ι₁ s₁ c3 ok r (ha.step ok R₁ S₁.heap))
theorem Ev.iteT {a b c : IE} (h : Tst C n a ρ σ true σ₁) (h' : Ev C n b ρ σ₁ v σ₂) : Ev C n (.ite a b c) ρ σ v σ₂ := .ite h h'
theorem Ev.iteF {a b c : IE} (h : Tst C n a ρ σ false σ₁) (h' : Ev C n c ρ σ₁ v σ₂) : Ev C n (.ite a b c) ρ σ v σ₂ := .ite h h'
noncomputable def TstL (C : Cx) (n : Nat) (op : BoolOp) (ies : List IE) (ρ : List (Nat × MV)) (σ : MH) (b : Bool) (σ' : MH) : Prop :=
 ∀ (F : Frm) (es : List Expr) (A : Around) (ι : List Addr) (s : Shared), chks F.env.scope.names ies es = true → FrmOk C F → Room A n → At C F ι σ ρ s.heap →
  wpAny (model C.prog C.w) A (allTrue op es F.env) (PostB C ι s b σ') (fun _ _ => False) s
theorem TstL.nilA : TstL C n .And [] ρ σ true σ := by
 intro F es A ι s hc _ _ ha
 have := nil_inv hc; subst this
 exact wpAny_allTrue_And_nil ⟨rfl, ι, ha.rel, .refl ..⟩
theorem TstL.nilO : TstL C n .Or [] ρ σ false σ := by
 intro F es A ι s hc _ _ ha
 have := nil_inv hc; subst this
 exact wpAny_allTrue_Or_nil ⟨rfl, ι, ha.rel, .refl ..⟩
theorem PostB.trans {ι ι₁ : List Addr} {s s₁ s₂ : Shared} {b b' : Bool} (S : Stp [] ι s ι₁ s₁) (p : PostB C ι₁ s₁ b σ₂ b' s₂) : PostB C ι s b σ₂ b' s₂ := by
 obtain ⟨e, ι₂, R₂, S₂⟩ := p; exact ⟨e, ι₂, R₂, S.trans S₂⟩
theorem TstL.andF {e : IE} {es : List IE} (h : Tst C n e ρ σ false σ₁) : TstL C n .And (e :: es) ρ σ false σ₁ := by
 intro F xs A ι s hc ok r ha
 replace hc := onCons_inv hc; obtain ⟨x, xs, rfl, hc⟩ := hc
 replace hc := and3 hc
 ·refine wpAny_allTrue_And_cons (wpAny_mono (h F x A ι s hc.1 ok r ha) (fun b s₁ p => ?_) fun _ _ x => x)
  obtain ⟨rfl, p⟩ := p
  exact ⟨rfl, p⟩
theorem TstL.andT {e : IE} {es : List IE} {t : Bool} (h : Tst C n e ρ σ true σ₁) (h' : TstL C n .And es ρ σ₁ t σ₂) : TstL C n .And (e :: es) ρ σ t σ₂ := by
 intro F xs A ι s hc ok r ha
 replace hc := onCons_inv hc; obtain ⟨x, xs, rfl, hc⟩ := hc
 replace hc := and3 hc
 ·refine wpAny_allTrue_And_cons (wpAny_mono (h F x A ι s hc.1 ok r ha) (fun b s₁ p => ?_) fun _ _ x => x)
  obtain ⟨rfl, ι₁, R₁, S₁⟩ := p
  exact wpAny_mono (h' F xs A ι₁ s₁ hc.3 ok r (ha.step ok R₁ S₁.heap)) (fun _ _ p => p.trans S₁) fun _ _ x => x
theorem TstL.orT {e : IE} {es : List IE} (h : Tst C n e ρ σ true σ₁) : TstL C n .Or (e :: es) ρ σ true σ₁ := by
 intro F xs A ι s hc ok r ha
 replace hc := onCons_inv hc; obtain ⟨x, xs, rfl, hc⟩ := hc
 replace hc := and3 hc
 ·refine wpAny_allTrue_Or_cons (wpAny_mono (h F x A ι s hc.1 ok r ha) (fun b s₁ p => ?_) fun _ _ x => x)
  obtain ⟨rfl, p⟩ := p
  exact ⟨rfl, p⟩
theorem TstL.orF {e : IE} {es : List IE} {t : Bool} (h : Tst C n e ρ σ false σ₁) (h' : TstL C n .Or es ρ σ₁ t σ₂) : TstL C n .Or (e :: es) ρ σ t σ₂ := by
 intro F xs A ι s hc ok r ha
 replace hc := onCons_inv hc; obtain ⟨x, xs, rfl, hc⟩ := hc
 replace hc := and3 hc
 ·refine wpAny_allTrue_Or_cons (wpAny_mono (h F x A ι s hc.1 ok r ha) (fun b s₁ p => ?_) fun _ _ x => x)
  obtain ⟨rfl, ι₁, R₁, S₁⟩ := p
  exact wpAny_mono (h' F xs A ι₁ s₁ hc.3 ok r (ha.step ok R₁ S₁.heap)) (fun _ _ p => p.trans S₁) fun _ _ x => x
theorem chk_bool {bop : BoolOp} {ns : Names} {es : List IE} {e : Expr} (h : onBoolOp e (fun op xs _ => decide (op = bop) && chks ns es xs && !xs.isEmpty) = true) : E2 fun xs pos => e = .BoolOp bop xs pos ∧ chks ns es xs = true := by
 replace h := onBoolOp_inv h; obtain ⟨op, xs, pos, rfl, h⟩ := h
 obtain ⟨h0, h1, h2⟩ := and3 h
 have h0 := of_decide_eq_true h0; subst h0
 exact ⟨_, _, rfl, h1⟩
theorem Tst.and {es : List IE} {t : Bool} (h : TstL C n .And es ρ σ t σ₁) : Tst C n (.and es) ρ σ t σ₁ := by
 intro F e A ι s hc ok r ha
 replace hc := chk_bool (bop := .And) hc; obtain ⟨xs, pos, rfl, hc'⟩ := hc
 exact wpAny_isTrue_BoolOp (h F xs A ι s hc' ok r ha)
theorem Tst.or {es : List IE} {t : Bool} (h : TstL C n .Or es ρ σ t σ₁) : Tst C n (.or es) ρ σ t σ₁ := by
 intro F e A ι s hc ok r ha
 replace hc := chk_bool (bop := .Or) hc; obtain ⟨xs, pos, rfl, hc'⟩ := hc
 exact wpAny_isTrue_BoolOp (h F xs A ι s hc' ok r ha)
theorem Ev.and2 {a b : IE} {t : Bool} (h : Ev C n a ρ σ (.bool t) σ₁) (h' : t = true → Ev C n b ρ σ₁ v σ₂) (hf : t = false → v = .bool false ∧ σ₂ = σ₁) : Ev C n (.and [a, b]) ρ σ v σ₂ := by
 intro F e A ι s hc ok r ha
 replace hc := chk_bool (bop := .And) hc; obtain ⟨xs, pos, rfl, hc'⟩ := hc
 replace hc := onCons_inv hc'; obtain ⟨x, xs, rfl, hc⟩ := hc
 obtain ⟨c1, _, c0⟩ := and3 hc
 replace hc := onCons_inv c0; clear c0; obtain ⟨y, xs, rfl, hc⟩ := hc
 obtain ⟨c2, _, c3⟩ := and3 hc
 have := nil_inv c3; subst this
 refine wpAny_And2 (wpAny_mono (h F x A ι s c1 ok r ha) (fun rv s₁ p => ?_) fun _ _ x => x)
 obtain ⟨ι₁, R₁, V₁, S₁⟩ := p
 have V₁ : _ = _ := V₁; subst V₁
 refine wpAny_truthy_bool ?_
 cases t with
 | true => exact wpAny_mono (h' rfl F y A ι₁ s₁ c2 ok r (ha.step ok R₁ S₁.heap)) (fun _ _ p => by obtain ⟨ι₂, R₂, V₂, S₂⟩ := p; exact ⟨ι₂, R₂, V₂, S₁.trans S₂⟩) fun _ _ x => x
 | false => obtain ⟨rfl, rfl⟩ := hf rfl; exact ⟨ι₁, R₁, by first | exact rfl | exact ⟨_, rfl⟩, S₁⟩
end
end Mine
namespace Mine
open PySem PySem.W PyProof.Rows PySem.Calls PySem.Spec PySem.SeqAt
mutual
noncomputable def toPy : MV → PyData
 | .none => .none
 | .bool b => .bool b
 | .int i => .int i
 | .str i => .str (tx i)
 | .tup xs => .tuple (toPys xs)
 | .bytes _ => .none
 | .loc _ => .none
 | .inst _ _ => .none
 | .raw _ => .none
noncomputable def toPys : List MV → List PyData
 | [] => []
 | x :: xs => toPy x :: toPys xs
end
noncomputable def onSucc (k : Nat) (f : Nat → Bool) : Bool := Nat.casesOn k false f
mutual
noncomputable def pv : MV → Nat → Bool
 | .none, _ => true
 | .int _, _ => true
 | .str i, _ => Nat.blt i tabN
 | .tup xs, k => onSucc k fun k => pvs xs k
 | .bool _, _ => false
 | .bytes _, _ => false
 | .loc _, _ => false
 | .inst _ _, _ => false
 | .raw _, _ => false
noncomputable def pvs : List MV → Nat → Bool
 | [], _ => true
 | x :: xs, k => pv x k && pvs xs k
end
theorem tab_ok : (tab.all fun x => PyData.strOk x) = true := by decide +kernel
theorem tx_of {i : Nat} {x : Str} (h : tab[i]? = some x) : tx i = x := by simp [tx, List.getD, h]
theorem tx_mem {i : Nat} (h : i < tab.length) : tab[i]? = some (tx i) := by
 simp [tx, List.getD, List.getElem?_eq_getElem h]
theorem tx_ok {i : Nat} (h : i < tab.length) : PyData.strOk (tx i) = true := List.all_eq_true.mp tab_ok _ (List.mem_of_getElem? (tx_mem h))
theorem tx_inj {i j : Nat} (h : i < tab.length) (h' : j < tab.length) (e : tx i = tx j) : i = j := tab_inj (tx_mem h) (e ▸ tx_mem h')
theorem blt_lt {a : Nat} (h : Nat.blt a tabN = true) : a < tab.length := tab_len ▸ Nat.lt_of_lt_of_le (Nat.lt_succ_self a) (Nat.le_of_ble_eq_true h)
mutual
theorem VR.reads {ι : List Addr} {h : Heap} : ∀ {v : MV} {rv : Value} {k : Nat}, VR ι h v rv → pv v k = true → ∃ as, Reads h rv (toPy v) as
 | .none, _, _, e, _ => by have e : _ = _ := e; subst e; exact ⟨_, .none⟩
 | .int i, _, _, e, _ => by obtain ⟨tk, rfl⟩ := e; exact ⟨_, .int ..⟩
 | .str i, _, _, e, _ => by obtain ⟨x, tk, h1, rfl⟩ := e; rw [← tx_of h1]; exact ⟨_, .str ..⟩
 | .tup xs, _, k, e, hp => by
  cases k with
  | zero => exact ff hp
  | succ k =>
   obtain ⟨a, items, n, rfl, h1, h4⟩ := e
   obtain ⟨as, q⟩ := VRs.reads h4 hp
   exact ⟨as, .tuple h1 rfl rfl q⟩
 | .bool _, _, _, _, hp => ff hp
 | .bytes _, _, _, _, hp => ff hp
 | .loc _, _, _, _, hp => ff hp
 | .inst _ _, _, _, _, hp => ff hp
 | .raw _, _, _, _, hp => ff hp
theorem VRs.reads {ι : List Addr} {h : Heap} : ∀ {xs : List MV} {vs : List Value} {k : Nat}, VRs ι h xs vs → pvs xs k = true → ∃ as, ReadsAll h vs (toPys xs) as
 | [], _, _, e, _ => by have e : _ = _ := e; subst e; exact ⟨_, .nil⟩
 | x :: xs, _, k, e, hp => by
  obtain ⟨v, r, rfl, h1, h2⟩ := e
  obtain ⟨as, q⟩ := VR.reads h1 (and2 hp).1
  obtain ⟨bs, q'⟩ := VRs.reads h2 (and2 hp).2
  exact ⟨_, .cons q q'⟩
end
theorem lay_and {a b : Bool} {m n k : Nat} (h1 : a = true ∧ m ≤ k) (h2 : b = true ∧ n ≤ k) : (a && b) = true ∧ max m n ≤ k := ⟨congr (congrArg and h1.1) h2.1, Nat.max_le.mpr ⟨h1.2, h2.2⟩⟩
mutual
theorem pv_lay : ∀ (v : MV) (k : Nat), pv v k = true → (toPy v).canLay0 = true ∧ (toPy v).depth ≤ k
 | .none, k, _ => ⟨rfl, Nat.zero_le _⟩
 | .int i, k, _ => ⟨rfl, Nat.zero_le _⟩
 | .str i, k, h => ⟨tx_ok (blt_lt h), Nat.zero_le _⟩
 | .tup xs, k, h => by
  cases k with
  | zero => exact ff h
  | succ k => have q := pvs_lay xs k h; exact ⟨q.1, Nat.succ_le_succ q.2⟩
 | .bool _, _, hp => ff hp
 | .bytes _, _, hp => ff hp
 | .loc _, _, hp => ff hp
 | .inst _ _, _, hp => ff hp
 | .raw _, _, hp => ff hp
theorem pvs_lay : ∀ (xs : List MV) (k : Nat), pvs xs k = true → PyData.canLayAll0 (toPys xs) = true ∧ PyData.depthAll (toPys xs) ≤ k
 | [], k, _ => ⟨rfl, Nat.zero_le _⟩
 | x :: xs, k, h => lay_and (pv_lay x k (and2 h).1) (pvs_lay xs k (and2 h).2)
end
mutual
theorem pv_eqv : ∀ (a b : MV) (k l : Nat), pv a k = true → pv b l = true → PyData.eqv (toPy a) (toPy b) = MV.beq a b
 | .none, b, k, l, _, hb => by cases b <;> first | exact ff hb | rfl
 | .int i, b, k, l, _, hb => by cases b <;> first | exact ff hb | rfl
 | .str i, b, k, l, ha, hb => by
  cases b with
  | str j =>
   show decide (tx i = tx j) = Nat.beq i j
   by_cases e : i = j
   ·subst e; rw [decide_eq_true rfl, Nat.beq_refl]
   ·rw [decide_eq_false fun q => e (tx_inj (blt_lt ha) (blt_lt hb) q)]
    exact (Bool.eq_false_iff.mpr fun q => e (Nat.eq_of_beq_eq_true q)).symm
  | _ => first | exact ff hb | rfl
 | .tup xs, b, k, l, ha, hb => by
  cases k with
  | zero => exact ff ha
  | succ k =>
   cases b with
   | tup ys =>
    cases l with
    | zero => exact ff hb
    | succ l => exact pvs_eqv xs ys k l ha hb
   | _ => first | exact ff hb | rfl
 | .bool _, _, _, _, hp, _ => ff hp
 | .bytes _, _, _, _, hp, _ => ff hp
 | .loc _, _, _, _, hp, _ => ff hp
 | .inst _ _, _, _, _, hp, _ => ff hp
 | .raw _, _, _, _, hp, _ => ff hp
theorem pvs_eqv : ∀ (xs ys : List MV) (k l : Nat), pvs xs k = true → pvs ys l = true → PyData.eqvAll (toPys xs) (toPys ys) = MV.beqs xs ys
 | [], ys, k, l, _, _ => by cases ys <;> rfl
 | x :: xs, ys, k, l, ha, hb => by
  cases ys with
  | nil => rfl
  | cons y ys => exact congr (congrArg and (pv_eqv x y k l (and2 ha).1 (and2 hb).1)) (pvs_eqv xs ys k l (and2 ha).2 (and2 hb).2)
end
theorem pv_shaped {v : MV} (h : pv v 8 = true) : shaped (toPy v) = true := by
 have := pv_lay v 8 h
 unfold shaped; rw [this.1, Bool.true_and]; exact decide_eq_true (Nat.le_trans this.2 (by decide))
theorem pvs_shapedL {xs : List MV} (h : pvs xs 8 = true) : shaped (.list (toPys xs)) = true := by
 have := pvs_lay xs 8 h
 unfold shaped; exact congr (congrArg and this.1) (decide_eq_true (Nat.le_trans (Nat.succ_le_succ this.2 : _ ≤ 9) (by decide)))
theorem pvs_any : ∀ (ys : List MV) (v : MV), pvs ys 8 = true → pv v 8 = true → ((toPys ys).any fun y => y.eqv (toPy v)) = ys.any fun y => y.beq v
 | [], v, _, _ => rfl
 | y :: ys, v, h, hv => congr (congrArg or (pv_eqv y v 8 8 (and2 h).1 hv)) (pvs_any ys v (and2 h).2 hv)
mutual
theorem pv_mono : ∀ (k : Nat) (v : MV), pv v k = true → pv v (k + 1) = true
 | _, .none, _ => rfl
 | _, .int _, _ => rfl
 | _, .str _, h => h
 | 0, .tup _, h => ff h
 | k + 1, .tup xs, h => pvs_mono k xs h
 | _, .bool _, h => ff h
 | _, .bytes _, h => ff h
 | _, .loc _, h => ff h
 | _, .inst _ _, h => ff h
 | _, .raw _, h => ff h
theorem pvs_mono : ∀ (k : Nat) (xs : List MV), pvs xs k = true → pvs xs (k + 1) = true
 | _, [], _ => rfl
 | k, x :: xs, h => congr (congrArg and (pv_mono k x (and2 h).1)) (pvs_mono k xs (and2 h).2)
end
theorem vr2 {ι : List Addr} {h : Heap} {a b : MV} {rvs : List Value} (V : VRs ι h [a, b] rvs) : E2 fun x y => N3 (rvs = [x, y]) (VR ι h a x) (VR ι h b y) := by
 obtain ⟨x, _, rfl, h1, y, _, rfl, h2, rfl⟩ := V
 exact ⟨x, y, rfl, h1, h2⟩
theorem vr1 {ι : List Addr} {h : Heap} {a : MV} {rvs : List Value} (V : VRs ι h [a] rvs) : ∃ x, rvs = [x] ∧ VR ι h a x := by
 obtain ⟨x, _, rfl, h1, rfl⟩ := V
 exact ⟨x, rfl, h1⟩
theorem vr3 {ι : List Addr} {h : Heap} {a b c : MV} {rvs : List Value} (V : VRs ι h [a, b, c] rvs) : E3 fun x y z => N4 (rvs = [x, y, z]) (VR ι h a x) (VR ι h b y) (VR ι h c z) := by
 obtain ⟨x, _, rfl, h1, y, _, rfl, h2, z, _, rfl, h3, rfl⟩ := V
 exact ⟨x, y, z, rfl, h1, h2, h3⟩
section
variable {C : Cx} {n : Nat} {σ : MH} {a b : MV} {xs ys : List MV} {i j : Nat}
noncomputable abbrev cmpF (op : CmpOp) : List Value → Sem Value := fun vs => compareOp op (vs.getD 0 .none) (vs.getD 1 .none)
noncomputable abbrev binF (op : Operator) : List Value → Sem Value := fun vs => binaryOp op (vs.getD 0 .none) (vs.getD 1 .none)
theorem Rel.list {ι : List Addr} {h : Heap} (R : Rel C ι σ h) {rv : Value} (hv : VR ι h (.loc i) rv) (hx : σ[i]? = some (.list xs)) :
  E4 fun l o items k => N9 (rv = .ref l) (ι[i]? = some l) (h.get? l = some o) (o.cls = .type "list") (o.dict = none) (o.slots = #[]) (o.data = .seq items k) (VRs ι h xs items.toList) (xs.length ≤ sizeLine) := by
 obtain ⟨l, rfl, hl⟩ := hv
 obtain ⟨o, ho, h1, h2, h3, items, k, h4, h5, h6⟩ := R.loc hl hx
 exact ⟨l, o, items, k, rfl, hl, ho, h1, h2, h3, h4, h5, h6⟩
theorem Rel.isList {ι : List Addr} {h : Heap} (R : Rel C ι σ h) {rv : Value} (hv : VR ι h (.loc i) rv) (hx : σ[i]? = some (.list xs)) :
  E2 fun l items => N5 (rv = .ref l) (ι[i]? = some l) (h.IsList l items) (VRs ι h xs items.toList) (xs.length ≤ sizeLine) := by
 obtain ⟨l, o, items, k, h1, h2, h3, h4, _, _, h5, h6, h7⟩ := R.list hv hx
 exact ⟨l, items, h1, h2, ⟨o, h3, h4, k, h5⟩, h6, h7⟩
theorem Rel.readsL {ι : List Addr} {h : Heap} (R : Rel C ι σ h) {rv : Value} (hv : VR ι h (.loc i) rv) (hx : σ[i]? = some (.list xs)) (hp : pvs xs 8 = true) : ∃ as, Reads h rv (.list (toPys xs)) as := by
 obtain ⟨l, o, items, k, rfl, _, h3, h4, _, _, h5, h6, _⟩ := R.list hv hx
 obtain ⟨as, q⟩ := h6.reads hp
 exact ⟨_, .list h3 h4 h5 q⟩
theorem Op.eq (ha : pv a 8 = true) (hb : pv b 8 = true) : Op C n [a, b] σ (cmpF .Eq) (.bool (a.beq b)) σ := by
 intro A ι s rvs r R V
 obtain ⟨x, y, rfl, h1, h2⟩ := vr2 V
 obtain ⟨as, q1⟩ := h1.reads ha
 obtain ⟨bs, q2⟩ := h2.reads hb
 refine eq_dataH q1 q2 (pv_shaped ha) (pv_shaped hb) (by have := r.units; lia) ?_
 rw [pv_eqv a b 8 8 ha hb]
 exact ⟨ι, R, by first | exact rfl | exact ⟨_, rfl⟩, .refl ..⟩
theorem Op.ne (ha : pv a 8 = true) (hb : pv b 8 = true) : Op C n [a, b] σ (cmpF .NotEq) (.bool (!a.beq b)) σ := by
 intro A ι s rvs r R V
 obtain ⟨x, y, rfl, h1, h2⟩ := vr2 V
 obtain ⟨as, q1⟩ := h1.reads ha
 obtain ⟨bs, q2⟩ := h2.reads hb
 refine ne_dataH q1 q2 (pv_shaped ha) (pv_shaped hb) (by have := r.units; lia) ?_
 rw [pv_eqv a b 8 8 ha hb]
 exact ⟨ι, R, by first | exact rfl | exact ⟨_, rfl⟩, .refl ..⟩
theorem Op.neL (hi : σ[i]? = some (.list xs)) (hj : σ[j]? = some (.list ys)) (ha : pvs xs 8 = true) (hb : pvs ys 8 = true) : Op C n [.loc i, .loc j] σ (cmpF .NotEq) (.bool (!MV.beqs xs ys)) σ := by
 intro A ι s rvs r R V
 obtain ⟨x, y, rfl, h1, h2⟩ := vr2 V
 obtain ⟨as, q1⟩ := R.readsL h1 hi ha
 obtain ⟨bs, q2⟩ := R.readsL h2 hj hb
 refine ne_dataH q1 q2 (pvs_shapedL ha) (pvs_shapedL hb) (by have := r.units; lia) ?_
 rw [PyData.eqv, pvs_eqv xs ys 8 8 ha hb]
 exact ⟨ι, R, by first | exact rfl | exact ⟨_, rfl⟩, .refl ..⟩
theorem Op.eqL (hi : σ[i]? = some (.list xs)) (hj : σ[j]? = some (.list ys)) (ha : pvs xs 8 = true) (hb : pvs ys 8 = true) : Op C n [.loc i, .loc j] σ (cmpF .Eq) (.bool (MV.beqs xs ys)) σ := by
 intro A ι s rvs r R V
 obtain ⟨x, y, rfl, h1, h2⟩ := vr2 V
 obtain ⟨as, q1⟩ := R.readsL h1 hi ha
 obtain ⟨bs, q2⟩ := R.readsL h2 hj hb
 refine eq_dataH q1 q2 (pvs_shapedL ha) (pvs_shapedL hb) (by have := r.units; lia) ?_
 rw [PyData.eqv, pvs_eqv xs ys 8 8 ha hb]
 exact ⟨ι, R, by first | exact rfl | exact ⟨_, rfl⟩, .refl ..⟩
theorem Op.inL (hj : σ[j]? = some (.list ys)) (ha : pv a 8 = true) (hb : pvs ys 8 = true) : Op C n [a, .loc j] σ (cmpF .In) (.bool (ys.any fun y => y.beq a)) σ := by
 intro A ι s rvs r R V
 obtain ⟨x, y, rfl, h1, h2⟩ := vr2 V
 obtain ⟨as, q1⟩ := h1.reads ha
 obtain ⟨bs, q2⟩ := R.readsL h2 hj hb
 refine in_list_reads (A := A) q2 q1 (pvs_lay ys 8 hb).1 (pv_lay a 8 ha).1 (by have := r.units; have := (pv_lay a 8 ha).2; lia) ?_
 rw [pvs_any ys a hb ha]
 exact ⟨ι, R, by first | exact rfl | exact ⟨_, rfl⟩, .refl ..⟩
theorem Op.notInL (hj : σ[j]? = some (.list ys)) (ha : pv a 8 = true) (hb : pvs ys 8 = true) : Op C n [a, .loc j] σ (cmpF .NotIn) (.bool (!ys.any fun y => y.beq a)) σ := by
 intro A ι s rvs r R V
 obtain ⟨x, y, rfl, h1, h2⟩ := vr2 V
 obtain ⟨as, q1⟩ := h1.reads ha
 obtain ⟨bs, q2⟩ := R.readsL h2 hj hb
 refine notIn_list_reads (A := A) q2 q1 (pvs_lay ys 8 hb).1 (pv_lay a 8 ha).1 (by have := r.units; have := (pv_lay a 8 ha).2; lia) ?_
 rw [pvs_any ys a hb ha]
 exact ⟨ι, R, by first | exact rfl | exact ⟨_, rfl⟩, .refl ..⟩
theorem Op.inT (ha : pv a 8 = true) (hb : pvs ys 7 = true) : Op C n [a, .tup ys] σ (cmpF .In) (.bool (ys.any fun y => y.beq a)) σ := by
 intro A ι s rvs r R V
 obtain ⟨x, y, rfl, h1, h2⟩ := vr2 V
 obtain ⟨as, q1⟩ := h1.reads ha
 have hb' : pv (.tup ys) 8 = true := hb
 have hb8 : pvs ys 8 = true := pvs_mono 7 ys hb
 obtain ⟨bs, q2⟩ := h2.reads hb'
 refine in_tuple_reads (A := A) q2 q1 (pvs_lay ys 8 hb8).1 (pv_lay a 8 ha).1 (by have := r.units; have := (pv_lay a 8 ha).2; lia) ?_
 rw [pvs_any ys a hb8 ha]
 exact ⟨ι, R, by first | exact rfl | exact ⟨_, rfl⟩, .refl ..⟩
theorem isN {ι : List Addr} {h : Heap} {x : Value} (ha : ∀ v, a ≠ .raw v) (V : VR ι h a x) : (x == Value.none) = a.beq .none := by
 cases a with
 | raw v => exact absurd rfl (ha v)
 | none => have V : _ = _ := V; subst V; rfl
 | bool _ => have V : _ = _ := V; subst V; rfl
 | int _ => obtain ⟨_, rfl⟩ := V; rfl
 | str _ => obtain ⟨_, _, _, rfl⟩ := V; rfl
 | bytes _ => obtain ⟨_, rfl⟩ := V; rfl
 | tup _ => obtain ⟨_, _, _, rfl, _⟩ := V; rfl
 | loc _ => obtain ⟨_, rfl, _⟩ := V; rfl
 | inst _ _ => obtain ⟨_, _, rfl, _⟩ := V; rfl
theorem Op.isNone (ha : ∀ v, a ≠ .raw v := by intro _; nofun) : Op C n [a, .none] σ (cmpF .Is) (.bool (a.beq .none)) σ := by
 intro A ι s rvs r R V
 obtain ⟨x, y, rfl, h1, h2⟩ := vr2 V
 have h2 : _ = _ := h2; subst h2
 exact is_none (isN ha h1 ▸ ⟨ι, R, rfl, .refl ..⟩)
theorem Op.isNotNone (ha : ∀ v, a ≠ .raw v := by intro _; nofun) : Op C n [a, .none] σ (cmpF .IsNot) (.bool (!a.beq .none)) σ := by
 intro A ι s rvs r R V
 obtain ⟨x, y, rfl, h1, h2⟩ := vr2 V
 have h2 : _ = _ := h2; subst h2
 exact isNot_none (isN ha h1 ▸ ⟨ι, R, rfl, .refl ..⟩)
variable {k l : Int}
theorem vrInt {ι : List Addr} {h : Heap} {rv : Value} (V : VR ι h (.int k) rv) : ∃ tk, rv = .int k tk := V
theorem op_int {f : List Value → Sem Value} {v : MV} (h : ∀ (A : Around) (ι : List Addr) (s : Shared) (t u : Tok), Room A n → Rel C ι σ s.heap → wpAny (model C.prog C.w) A (f [.int k t, .int l u]) (Post C ι s v σ) (fun _ _ => False) s) :
  Op C n [.int k, .int l] σ f v σ := by
 intro A ι s rvs r R V
 obtain ⟨x, y, rfl, h1, h2⟩ := vr2 V
 obtain ⟨t, rfl⟩ := vrInt h1
 obtain ⟨u, rfl⟩ := vrInt h2
 exact h A ι s t u r R
theorem Op.addI : Op C n [.int k, .int l] σ (binF .Add) (.int (k + l)) σ := op_int fun _ _ _ _ _ _ R => PyProof.Rows.add_int (post_here R (by first | exact rfl | exact ⟨_, rfl⟩))
theorem Op.subI : Op C n [.int k, .int l] σ (binF .Sub) (.int (k - l)) σ := op_int fun _ _ _ _ _ _ R => PyProof.Rows.sub_int (post_here R (by first | exact rfl | exact ⟨_, rfl⟩))
theorem Op.mulI (h : IntMulOk k l) : Op C n [.int k, .int l] σ (binF .Mult) (.int (k * l)) σ := op_int fun _ _ _ _ _ _ R => PyProof.Rows.mul_int (post_here R (by first | exact rfl | exact ⟨_, rfl⟩)) h
theorem Op.modI (h : l ≠ 0) : Op C n [.int k, .int l] σ (binF .Mod) (.int (k.fmod l)) σ := op_int fun _ _ _ _ _ _ R => mod_int' h (post_here R (by first | exact rfl | exact ⟨_, rfl⟩))
theorem Op.divI (h : l ≠ 0) (h' : l.natAbs < 1073741824) : Op C n [.int k, .int l] σ (binF .FloorDiv) (.int (k.fdiv l)) σ := op_int fun _ _ _ _ _ _ R => PyProof.Rows.floordiv_int h (post_here R (by first | exact rfl | exact ⟨_, rfl⟩)) (.inl (PyProof.noPylong_small h'))
theorem Op.powI (h0 : 0 ≤ l) (h1 : l ≤ 1000000) (h2 : k.natAbs < 2 ^ 64) : Op C n [.int k, .int l] σ (binF .Pow) (.int (k ^ l.toNat)) σ := op_int fun _ _ _ _ _ _ R => pow_int_small h0 h1 h2 (post_here R (by first | exact rfl | exact ⟨_, rfl⟩))
theorem Op.ltI : Op C n [.int k, .int l] σ (cmpF .Lt) (.bool (decide (k < l))) σ := op_int fun _ _ _ _ _ _ R => PyProof.Rows.lt_int ⟨_, R, by first | exact rfl | exact ⟨_, rfl⟩, .refl ..⟩
theorem Op.gtI : Op C n [.int k, .int l] σ (cmpF .Gt) (.bool (decide (l < k))) σ := op_int fun _ _ _ _ _ _ R => PyProof.Rows.gt_int ⟨_, R, by first | exact rfl | exact ⟨_, rfl⟩, .refl ..⟩
theorem Op.geI : Op C n [.int k, .int l] σ (cmpF .GtE) (.bool (decide (l ≤ k))) σ := op_int fun _ _ _ _ _ _ R => PyProof.Rows.ge_int ⟨_, R, by first | exact rfl | exact ⟨_, rfl⟩, .refl ..⟩
end
end Mine
namespace Mine
open PySem PySem.W PyProof.Rows PySem.Calls PySem.Spec PySem.SeqAt
noncomputable def kfind (es : List (MV × MV)) (k : MV) : Option Nat := es.findIdx? fun e => e.1.beq k
noncomputable def Fits (es : List (MV × MV)) (k : MV) : Prop := (k.isAtom ∧ ∀ e ∈ es, e.1.isAtom) ∨ (k.isFlat ∧ ∀ e ∈ es, e.1.isFlat)
noncomputable def atomB : MV → Bool
 | .int _ => true
 | .str i => Nat.blt i tabN
 | _ => false
noncomputable def flatB : MV → Bool
 | .tup xs => xs.all atomB
 | _ => false
theorem atomB_iff {v : MV} (h : atomB v = true) : v.isAtom := by
 cases v <;> simp only [atomB, Bool.false_eq_true] at h
 ·exact ⟨_, rfl⟩
 ·rename_i i; exact ⟨.inr (tx i), by simp [atomOf, tx_mem (blt_lt h)]⟩
theorem flatB_iff {v : MV} (h : flatB v = true) : v.isFlat := by
 cases v <;> simp only [flatB, Bool.false_eq_true] at h
 exact ⟨_, rfl, fun x hx => atomB_iff (List.all_eq_true.mp h x hx)⟩
noncomputable def fitsB (es : List (MV × MV)) (k : MV) : Bool := (atomB k && es.all fun e => atomB e.1) || (flatB k && es.all fun e => flatB e.1)
theorem fits_of {es : List (MV × MV)} {k : MV} (h : fitsB es k = true) : Fits es k := by
 simp only [fitsB, Bool.or_eq_true, Bool.and_eq_true] at h
 rcases h with ⟨h1, h2⟩ | ⟨h1, h2⟩
 ·exact .inl ⟨atomB_iff h1, fun e he => atomB_iff (List.all_eq_true.mp h2 e he)⟩
 ·exact .inr ⟨flatB_iff h1, fun e he => flatB_iff (List.all_eq_true.mp h2 e he)⟩
section
variable {C : Cx} {ι : List Addr} {h : Heap}
theorem ER.length : ∀ {es : List (MV × MV)} {ds : List DictEntry}, ER C ι h es ds → ds.length = es.length
 | [], _, e => by have e : _ = _ := e; subst e; rfl
 | (_, _) :: _, _, e => by obtain ⟨_, _, rfl, _, _, _, e⟩ := e; simp [e.length]
theorem ER.get : ∀ {es : List (MV × MV)} {ds : List DictEntry} {i : Nat} {k v : MV}, ER C ι h es ds → es[i]? = some (k, v) → ∃ d, N4 (ds[i]? = some d) (d.hash = keyHash C k) (VR ι h k d.key) (VR ι h v d.val)
 | [], _, _, _, _, _, hx => by simp at hx
 | (k', v') :: es, ds, i, k, v, e, hx => by
  obtain ⟨d, r, rfl, e0, e1, e2, e3⟩ := e
  cases i with
  | zero => simp at hx; obtain ⟨rfl, rfl⟩ := hx; exact ⟨d, rfl, e0, e1, e2⟩
  | succ i => simp at hx; simpa using e3.get hx
theorem ER.of {es : List (MV × MV)} {ds : List DictEntry} (hl : ds.length = es.length) (hx : ∀ (i : Nat) (k v : MV) (d : DictEntry), es[i]? = some (k, v) → ds[i]? = some d → d.hash = keyHash C k ∧ VR ι h k d.key ∧ VR ι h v d.val) : ER C ι h es ds := by
 induction es generalizing ds with
 | nil => cases ds with | nil => simp [ER] | cons _ _ => simp at hl
 | cons e es ih =>
  obtain ⟨k, v⟩ := e
  cases ds with
  | nil => simp at hl
  | cons d ds =>
   obtain ⟨h0, h1, h2⟩ := hx 0 k v d rfl rfl
   simp only [ER]
   exact ⟨d, ds, rfl, h0, h1, h2, ih (by simpa using hl) fun i k v d a b => hx (i + 1) k v d (by simpa using a) (by simpa using b)⟩
theorem ER.append : ∀ {es fs : List (MV × MV)} {ds gs : List DictEntry}, ER C ι h es ds → ER C ι h fs gs → ER C ι h (es ++ fs) (ds ++ gs)
 | [], _, ds, _, e, e' => by have e : _ = _ := e; subst e; exact e'
 | (_, _) :: _, _, ds, _, e, e' => by obtain ⟨d, r, rfl, e0, e1, e2, e3⟩ := e; simp only [List.cons_append, ER]; exact ⟨d, _, rfl, e0, e1, e2, e3.append e'⟩
theorem ER.vals : ∀ {es : List (MV × MV)} {ds : List DictEntry}, ER C ι h es ds → VRs ι h (es.map (·.2)) (ds.map (·.val))
 | [], _, e => by have e : _ = _ := e; subst e; exact .nil
 | (_, _) :: _, _, e => by obtain ⟨d, r, rfl, e0, e1, e2, e3⟩ := e; exact .cons e2 e3.vals
theorem ER.keys : ∀ {es : List (MV × MV)} {ds : List DictEntry}, ER C ι h es ds → VRs ι h (es.map (·.1)) (ds.map (·.key))
 | [], _, e => by have e : _ = _ := e; subst e; exact .nil
 | (_, _) :: _, _, e => by obtain ⟨d, r, rfl, e0, e1, e2, e3⟩ := e; exact .cons e1 e3.keys
theorem kfind_none {es : List (MV × MV)} {k : MV} : kfind es k = none ↔ ∀ e ∈ es, e.1 ≠ k := by
 simp only [kfind, List.findIdx?_eq_none_iff]
 exact ⟨fun h e he => MV.beq_false.mp (h e he), fun h e he => MV.beq_false.mpr (h e he)⟩
theorem kfind_some {es : List (MV × MV)} {k : MV} {i : Nat} (h : kfind es k = some i) : ∃ v, es[i]? = some (k, v) := by
 obtain ⟨hlt, h1, _⟩ := List.findIdx?_eq_some_iff_getElem.mp h
 refine ⟨es[i].2, ?_⟩
 rw [List.getElem?_eq_getElem hlt, ← MV.beq_iff.mp h1]
theorem dhas_iff {es : List (MV × MV)} {k : MV} : dhas es k = (kfind es k).isSome := by
 simp only [dhas, kfind]
 rw [Bool.eq_iff_iff, List.any_eq_true, List.findIdx?_isSome, List.any_eq_true]
theorem dget_of {es : List (MV × MV)} {k v : MV} {i : Nat} (h : kfind es k = some i) (hv : es[i]? = some (k, v)) : dget es k = some v := by
 induction es generalizing i with
 | nil => simp at hv
 | cons e es ih =>
  simp only [kfind, List.findIdx?_cons] at h
  simp only [dget, List.find?_cons]
  by_cases he : e.1.beq k = true
  ·rw [he] at h; simp at h; subst h; simp at hv; subst hv; simp [he]
  ·have he : e.1.beq k = false := by simpa using he
   rw [he] at h ⊢
   simp only [Bool.false_eq_true, if_false, Option.map_eq_some_iff] at h
   obtain ⟨j, hj, rfl⟩ := h
   exact ih hj (by simpa using hv)
theorem dget_none {es : List (MV × MV)} {k : MV} (h : kfind es k = none) : dget es k = none := by
 simp only [dget, Option.map_eq_none_iff, List.find?_eq_none]
 intro e he
 rw [MV.beq_false.mpr (kfind_none.mp h e he)]; simp
theorem findIdx_map {α β : Type} (p : α → Bool) (q : β → Bool) : ∀ (l : List α) (r : List β), l.length = r.length → (∀ (i : Nat) (a : α) (b : β), l[i]? = some a → r[i]? = some b → p a = q b) → l.findIdx? p = r.findIdx? q
 | [], [], _, _ => rfl
 | [], _ :: _, h, _ => by simp at h
 | _ :: _, [], h, _ => by simp at h
 | a :: l, b :: r, h, hp => by
  rw [List.findIdx?_cons, List.findIdx?_cons, hp 0 a b rfl rfl, findIdx_map p q l r (by simpa using h) fun i a b h1 h2 => hp (i + 1) a b (by simpa using h1) (by simpa using h2)]
theorem ER.trip {es : List (MV × MV)} {ds : List DictEntry} (E : ER C ι h es ds) (hf : ∀ e ∈ es, e.1.isFlat) (hn : (es.map (·.1)).Nodup) :
  ∃ xs : List (List Atom × Addr × Value), ds = xs.map (entryOfKey (tupleKind (atomKind C.prog C.w))) ∧ (∀ x ∈ xs, IsTupleKey (atomKind C.prog C.w) h x.1 x.2.1) ∧ (xs.map (·.1)).Nodup ∧
   xs.length = es.length ∧ ∀ (i : Nat) (ys : List MV) (v : MV), es[i]? = some (.tup ys, v) → ∃ p, xs[i]? = some (atomsOf ys, p) := by
 induction es generalizing ds with
 | nil => have E : _ = _ := E; subst E; exact ⟨[], rfl, by simp, by simp, rfl, by simp⟩
 | cons e es ih =>
  obtain ⟨k, v⟩ := e
  obtain ⟨d, r, rfl, e0, e1, e2, e3⟩ := E
  rw [List.map_cons, List.nodup_cons] at hn
  obtain ⟨xs, h1, h2, h3, h4, h5⟩ := ih e3 (fun e he => hf e (by simp [he])) hn.2
  obtain ⟨ys, rfl, hy⟩ := hf (k, v) (by simp)
  obtain ⟨a, ha, hk⟩ := e1.tupleKey (C := C) hy
  refine ⟨(atomsOf ys, a, d.val) :: xs, ?_, ?_, ?_, by simp [h4], ?_⟩
  ·rw [List.map_cons, ← h1]
   congr 1
   obtain ⟨dh, dk, dv⟩ := d
   simp only at e0 ha; subst e0; subst ha
   rfl
  ·intro x hx; rcases List.mem_cons.mp hx with rfl | hx
   ·exact hk
   ·exact h2 x hx
  ·rw [List.map_cons, List.nodup_cons]
   refine ⟨fun hm => ?_, h3⟩
   obtain ⟨⟨as, p⟩, hx, rfl⟩ := List.mem_map.mp hm
   obtain ⟨i, hi⟩ := List.mem_iff_getElem?.mp hx
   have hlt : i < es.length := by rw [← h4]; exact (List.getElem?_eq_some_iff.mp hi).1
   obtain ⟨zs, hz1, hz2⟩ := hf es[i] (by simp [List.getElem_mem])
   obtain ⟨p', hp'⟩ := h5 i zs es[i].2 (by rw [List.getElem?_eq_getElem hlt, ← hz1])
   rw [hi] at hp'
   have : ys = zs := atomsOf_inj hy hz2 (congrArg Prod.fst (Option.some.inj hp'))
   subst this
   exact hn.1 (List.mem_map.mpr ⟨es[i], List.getElem_mem _, hz1⟩)
  ·intro i zs u hi
   cases i with
   | zero => simp at hi; obtain ⟨rfl, rfl⟩ := hi; exact ⟨_, rfl⟩
   | succ i => simp at hi; simpa using h5 i zs u hi
end
section
variable {C : Cx} {n : Nat} {A : Around} {E : Value → Shared → Prop} {ι : List Addr} {σ : MH} {s : Shared} {i ep : Nat} {es : List (MV × MV)} {k v : MV} {rk rv : Value} {d : Addr}
theorem pyHash_R {Q : Int → Shared → Prop} (r : Room A n) (hk : k.isKey) (V : VR ι s.heap k rk) (h : ∀ tk, Q (keyHash C k) { s with toks := tk }) : wpAny (model C.prog C.w) A (pyHash rk) Q E s := by
 rcases hk with ⟨a, ha⟩ | ⟨xs, rfl, hx⟩
 ·rw [keyHash_atom ha] at h
  exact (atomKind C.prog C.w).pyHash (V.atom ha) (h _)
 ·obtain ⟨a, rfl, hk⟩ := V.tupleKey (C := C) hx
  exact wpAny_pyHash_tuple (knd := atomKind C.prog C.w) (by have := r.units; lia) hk (h _)
theorem dictFind_R {o : Obj} {ds : Array DictEntry} {Q : Option Nat → Shared → Prop} (r : Room A n) (ho : s.heap.get? d = some o) (hd : o.data = .dict ds ep) (X : ER C ι s.heap es ds.toList) (hn : (es.map (·.1)).Nodup) (hf : Fits es k)
  (V : VR ι s.heap k rk) (h : Q (kfind es k) s) : wpAny (model C.prog C.w) A (dictFind d rk (keyHash C k)) Q E s := by
 rcases hf with ⟨⟨a, ha⟩, hall⟩ | ⟨⟨ys, rfl, hy⟩, hall⟩
 ·rw [keyHash_atom ha]
  refine wpAny_dictFind_of (knd := atomKind C.prog C.w) (V.atom ha) ho hd ?_ ?_
  ·intro e he
   obtain ⟨j, hj⟩ := List.mem_iff_getElem?.mp (Array.mem_toList_iff.mpr he)
   have hlt : j < es.length := by rw [← X.length]; exact (List.getElem?_eq_some_iff.mp hj).1
   obtain ⟨e', h1, h2, h3, h4⟩ := X.get (i := j) (k := es[j].1) (v := es[j].2) (List.getElem?_eq_getElem hlt)
   rw [hj] at h1; cases h1
   obtain ⟨b, hb⟩ := hall es[j] (List.getElem_mem hlt)
   exact ⟨b, h3.atom hb, by rw [h2, keyHash_atom hb]; rfl⟩
  ·have : (ds.findIdx? fun e => (atomKind C.prog C.w).is a e.key) = kfind es k := by
    obtain ⟨l⟩ := ds
    rw [List.findIdx?_toArray]
    refine findIdx_map _ _ _ _ X.length fun j e p h1 h2 => ?_
    obtain ⟨e', g1, g2, g3, g4⟩ := X.get (i := j) (k := p.1) (v := p.2) h2
    rw [h1] at g1; cases g1
    obtain ⟨b, hb⟩ := hall p (List.mem_of_getElem? h2)
    show Mine.isAtom a e.key = p.1.beq k
    by_cases hab : a = b
    ·subst hab; rw [g3.atom hb, atomOf_inj hb ha, MV.beq_refl]
    ·have h1 : Mine.isAtom a e.key = false := Bool.eq_false_iff.mpr fun q => hab (isAtom_inj _ _ _ q (g3.atom hb))
     rw [h1]; exact (MV.beq_false.mpr fun q => by rw [q, ha] at hb; exact hab (Option.some.inj hb)).symm
   rw [this]; exact h
 ·obtain ⟨a, rfl, hk⟩ := V.tupleKey (C := C) hy
  obtain ⟨xs, h1, h2, h3, h4, h5⟩ := X.trip hall hn
  show wpAny _ _ (dictFind d (.ref a) ((tupleKind (atomKind C.prog C.w)).hash (atomsOf ys))) _ _ _
  refine wpAny_dictFind_heap (knd := tupleKind (atomKind C.prog C.w)) (xs := xs) (by show A.units < cLine; have := r.units; lia) hk ho hd h1 h2 h3 (fun hno => ?_) fun j p hj => ?_
  ·have : kfind es (.tup ys) = none := kfind_none.mpr fun e he q => by
    obtain ⟨j, hj⟩ := List.mem_iff_getElem?.mp he
    obtain ⟨p, hp⟩ := h5 j ys e.2 (by rw [hj, ← q])
    exact hno j p hp
   rwa [this] at h
  ·have hlt : j < es.length := by rw [← h4]; exact (List.getElem?_eq_some_iff.mp hj).1
   obtain ⟨zs, hz1, hz2⟩ := hall es[j] (List.getElem_mem hlt)
   obtain ⟨p', hp'⟩ := h5 j zs es[j].2 (by rw [List.getElem?_eq_getElem hlt, ← hz1])
   rw [hj] at hp'
   have e : ys = zs := atomsOf_inj hy hz2 (congrArg Prod.fst (Option.some.inj hp'))
   subst e
   have : kfind es (.tup ys) = some j := by
    refine List.findIdx?_eq_some_iff_getElem.mpr ⟨hlt, by rw [hz1, MV.beq_refl], fun l hl => ?_⟩
    rw [Bool.not_eq_true]
    refine MV.beq_false.mpr fun q => ?_
    have h6 : (es.map (·.1))[l]? = (es.map (·.1))[j]? := by
     rw [List.getElem?_map, List.getElem?_map, List.getElem?_eq_getElem (by lia), List.getElem?_eq_getElem hlt]
     simp [q, hz1]
    exact absurd ((List.getElem?_inj (by simp; lia) hn).mp h6) (by lia)
   rwa [this] at h
theorem Rel.dict (R : Rel C ι σ s.heap) (hv : VR ι s.heap (.loc i) rv) (hx : σ[i]? = some (.dict ep es)) :
  E3 fun d o ds => N8 (rv = .ref d) (ι[i]? = some d) (s.heap.get? d = some o) (o.ExactDict) (KeysOk es) (o.data = .dict ds ep) (ER C ι s.heap es ds.toList) (es.length ≤ sizeLine) := by
 obtain ⟨d, rfl, hl⟩ := hv
 obtain ⟨o, ho, h1, h2, ds, h3, h4, h5⟩ := R.loc hl hx
 exact ⟨d, o, ds, rfl, hl, ho, h1, h2, h3, h4, h5⟩
theorem dictGet_R {o : Obj} {ds : Array DictEntry} {Q : Option Value → Shared → Prop} (r : Room A n) (ho : s.heap.get? d = some o) (hd : o.data = .dict ds ep) (X : ER C ι s.heap es ds.toList) (hn : (es.map (·.1)).Nodup) (hf : Fits es k)
  (V : VR ι s.heap k rk) (h : ∀ tk, match dget es k with | some v => ∀ rv, VR ι s.heap v rv → Q (some rv) { s with toks := tk } | none => Q none { s with toks := tk }) : wpAny (model C.prog C.w) A (dictGet d rk) Q E s := by
 have hk : k.isKey := hf.imp (·.1) (·.1)
 unfold dictGet
 refine wpAny_holding (wpAny_bind (pyHash_R r hk V fun tk => ?_))
 refine wpAny_bind (dictFind_R (s := { s with toks := tk }) r ho hd X hn hf V ?_)
 have h := h tk
 cases hi : kfind es k with
 | none => rw [dget_none hi] at h; exact wpAny_pure h
 | some j =>
  obtain ⟨v, hv⟩ := kfind_some hi
  rw [dget_of hi hv] at h
  obtain ⟨e, h1, h2, h3, h4⟩ := X.get hv
  refine wpAny_bind (wpAny_dictEntries (s := { s with toks := tk }) ho hd (wpAny_pure ?_))
  rw [← Array.getElem?_toList, h1]
  exact h e.val h4
noncomputable def dsto (ep : Nat) (es : List (MV × MV)) (k v : MV) : MO := if dhas es k then .dict ep (dput es k v) else .dict (ep + 1) (es ++ [(k, v)])
theorem dput_at {es : List (MV × MV)} {k v : MV} {j : Nat} {u : MV} (hj : es[j]? = some (k, u)) (hn : (es.map (·.1)).Nodup) : dput es k v = es.set j (k, v) := by
 apply List.ext_getElem?
 intro l
 simp only [dput, List.getElem?_map]
 by_cases e : j = l
 ·subst e
  rw [List.getElem?_set_self (List.getElem?_eq_some_iff.mp hj).1, hj]
  simp [MV.beq_refl]
 ·rw [List.getElem?_set_ne e]
  cases hl : es[l]? with
  | none => rfl
  | some p =>
   have : p.1 ≠ k := fun q => by
    have h6 : (es.map (·.1))[l]? = (es.map (·.1))[j]? := by rw [List.getElem?_map, List.getElem?_map, hl, hj]; simp [q]
    exact e ((List.getElem?_inj (by rw [List.length_map]; exact (List.getElem?_eq_some_iff.mp hl).1) hn).mp h6).symm
   simp [MV.beq_false.mpr this]
theorem KeysOk.push (K : KeysOk es) (hf : Fits es k) (hi : kfind es k = none) (v : MV) : KeysOk (es ++ [(k, v)]) := by
 refine ⟨?_, ?_⟩
 ·rcases hf with ⟨h1, h2⟩ | ⟨h1, h2⟩
  ·exact .inl fun e he => by rcases List.mem_append.mp he with q | q; exact h2 e q; rw [List.mem_singleton.mp q]; exact h1
  ·exact .inr fun e he => by rcases List.mem_append.mp he with q | q; exact h2 e q; rw [List.mem_singleton.mp q]; exact h1
 ·rw [List.map_append, List.nodup_append]
  refine ⟨K.2, by simp, fun a ha b hb => ?_⟩
  simp at hb; subst hb
  obtain ⟨e, he, rfl⟩ := List.mem_map.mp ha
  exact kfind_none.mp hi e he
theorem push_post {o : Obj} {ds : Array DictEntry} {tk : Nat} (R : Rel C ι σ s.heap) (hl : ι[i]? = some d) (ho : s.heap.get? d = some o) (hc : o.ExactDict) (K : KeysOk es) (hd : o.data = .dict ds ep) (X : ER C ι s.heap es ds.toList)
  (hf : Fits es k) (hi : kfind es k = none) (V : VR ι s.heap k rk) (W : VR ι s.heap v rv) (hz : es.length < sizeLine) :
  PostU C ι s (σ.set i (.dict (ep + 1) (es ++ [(k, v)]))) { s with heap := s.heap.update d (Obj.mapDictKeys (·.push ⟨keyHash C k, rk, rv⟩)), toks := tk } := by
 have hk : ∀ b o, b ≠ d → s.heap.get? b = some o → (s.heap.update d (Obj.mapDictKeys (·.push ⟨keyHash C k, rk, rv⟩))).get? b = some o := fun b o hb e => (Heap.get?_update_ne _ _ _ _ hb).trans e
 have hsz : s.heap.objs.size ≤ (s.heap.update d (Obj.mapDictKeys (·.push ⟨keyHash C k, rk, rv⟩))).objs.size := by simp
 refine ⟨ι, R.set hl hk hsz (Heap.get?_update_self _ ho (Obj.isFreed_of_dict (Obj.data_mapDictKeys hd _))) ?_, .set hl hk hsz, rfl, rfl⟩
 refine ⟨hc.mapDictKeys _, K.push hf hi v, _, Obj.data_mapDictKeys hd _, ?_, by simp; lia⟩
 rw [Array.toList_push]
 refine X.append ?_
 simp only [ER]
 exact ⟨_, _, rfl, rfl, V, W, rfl⟩
theorem dictSet_R {o : Obj} {ds : Array DictEntry} {Q : Unit → Shared → Prop} (r : Room A n) (R : Rel C ι σ s.heap) (hl : ι[i]? = some d) (ho : s.heap.get? d = some o) (hc : o.ExactDict) (K : KeysOk es) (hd : o.data = .dict ds ep) (X : ER C ι s.heap es ds.toList)
  (hf : Fits es k) (V : VR ι s.heap k rk) (W : VR ι s.heap v rv) (hz : es.length < sizeLine) (h : ∀ s', PostU C ι s (σ.set i (dsto ep es k v)) s' → Q () s') : wpAny (model C.prog C.w) A (dictSet d rk rv) Q E s := by
 have hk : k.isKey := hf.imp (·.1) (·.1)
 unfold dictSet
 refine wpAny_holding (wpAny_bind (pyHash_R r hk V fun tk => ?_))
 unfold dictSetHashed
 refine wpAny_holding (wpAny_bind (dictFind_R (s := { s with toks := tk }) r ho hd X K.2 hf V ?_))
 cases hi : kfind es k with
 | none =>
  have e : dsto ep es k v = .dict (ep + 1) (es ++ [(k, v)]) := by simp [dsto, dhas_iff, hi]
  rw [e] at h
  refine wpAny_bind (wpAny_rule (wpAny_updateDictKeys (s := { s with toks := tk }) ho hd (h _ (push_post R hl ho hc K hd X hf hi V W hz)) ?_))
  rw [← Array.length_toList, X.length]; lia
 | some j =>
  obtain ⟨u, hu⟩ := kfind_some hi
  have e : dsto ep es k v = .dict ep (dput es k v) := by simp [dsto, dhas_iff, hi]
  rw [e, dput_at hu K.2] at h
  refine wpAny_bind (wpAny_rule (wpAny_bind (wpAny_updateDict (s := { s with toks := tk }) ho hd (wpAny_point (h _ ?_)))))
  have hk : ∀ b o, b ≠ d → s.heap.get? b = some o → (s.heap.update d (Obj.mapDict (·.modify j fun e => { e with val := rv }))).get? b = some o := fun b o hb e => (Heap.get?_update_ne _ _ _ _ hb).trans e
  have hsz : s.heap.objs.size ≤ (s.heap.update d (Obj.mapDict (·.modify j fun e => { e with val := rv }))).objs.size := by simp
  refine ⟨ι, R.set hl hk hsz (Heap.get?_update_self _ ho (Obj.isFreed_of_dict (Obj.data_mapDict hd _))) ?_, .set hl hk hsz, rfl, rfl⟩
  have hkeys : (es.set j (k, v)).map (·.1) = es.map (·.1) := by
   rw [List.map_set]
   apply List.ext_getElem?
   intro l
   by_cases q : j = l
   ·subst q; rw [List.getElem?_set_self (by simpa using (List.getElem?_eq_some_iff.mp hu).1), List.getElem?_map, hu]; rfl
   ·rw [List.getElem?_set_ne q]
  have hmem : ∀ (P : MV → Prop), (∀ e ∈ es, P e.1) → ∀ e ∈ es.set j (k, v), P e.1 := fun P hP e he => by
   have : e.1 ∈ (es.set j (k, v)).map (·.1) := List.mem_map.mpr ⟨e, he, rfl⟩
   rw [hkeys] at this
   obtain ⟨e', h1, h2⟩ := List.mem_map.mp this
   exact h2 ▸ hP e' h1
  refine ⟨hc.mapDict _, ⟨K.1.imp (hmem _) (hmem _), by rw [hkeys]; exact K.2⟩, _, Obj.data_mapDict hd _, ?_, ?_⟩
  ·rw [Array.toList_modify]
   refine ER.of (by rw [List.length_modify, List.length_set]; exact X.length) fun l k' v' e' h1 h2 => ?_
   rw [List.getElem?_modify] at h2
   by_cases q : j = l
   ·subst q
    rw [List.getElem?_set_self (List.getElem?_eq_some_iff.mp hu).1] at h1
    cases h1
    obtain ⟨e0, g1, g2, g3, g4⟩ := X.get hu
    rw [g1] at h2; simp at h2; subst h2
    exact ⟨g2, g3, W⟩
   ·rw [List.getElem?_set_ne q] at h1
    obtain ⟨e0, g1, g2, g3, g4⟩ := X.get h1
    rw [g1] at h2; simp [q] at h2; subst h2
    exact ⟨g2, g3, g4⟩
  ·rw [List.length_set]; lia
end
end Mine
namespace Mine
open PySem PySem.W PyProof.Rows PySem.Calls PySem.Spec PySem.SeqAt
section
variable {C : Cx} {n : Nat} {A : Around} {E : Value → Shared → Prop} {ι : List Addr} {σ : MH} {s : Shared} {i j ep : Nat} {es : List (MV × MV)} {xs ys : List MV} {k v : MV} {rk rv : Value} {d l : Addr}
theorem PostU.val {σ' : MH} {s' : Shared} {b : MV} {rb : Value} (p : PostU C ι s σ' s') (h : ∀ ι', VR ι' s'.heap b rb) : Post C ι s b σ' rb s' := by
 obtain ⟨ι', R, S⟩ := p; exact ⟨ι', R, h ι', S⟩
theorem PostU.none {σ' : MH} {s' : Shared} (p : PostU C ι s σ' s') : Post C ι s .none σ' .none s' := PostU.val p fun _ => by first | exact rfl | exact ⟨_, rfl⟩
theorem Rel.isL (R : Rel C ι σ s.heap) (hv : VR ι s.heap (.loc i) rv) (hx : σ[i]? = some (.list xs)) :
  E3 fun l items k => N6 (rv = .ref l) (ι[i]? = some l) (s.heap.get? l = some ({ cls := .type "list", data := .seq items k } : Obj)) (VRs ι s.heap xs items.toList) (xs.length ≤ sizeLine) (items.size = xs.length) := by
 obtain ⟨l, o, items, k, h1, h2, h3, h4, h5, h6, h7, h8, h9⟩ := R.list hv hx
 obtain ⟨oc, od, odt, osl⟩ := o
 simp only at h4 h5 h6 h7
 subst h4; subst h5; subst h6; subst h7
 exact ⟨l, items, k, h1, h2, h3, h8, h9, by rw [← Array.length_toList]; exact h8.length⟩
theorem upd_list {items : Array Value} {m tk : Nat} {f : Array Value → Array Value} (R : Rel C ι σ s.heap) (hl : ι[i]? = some l) (ho : s.heap.get? l = some ({ cls := .type "list", data := .seq items m } : Obj))
  (hy : VRs ι s.heap ys (f items).toList) (hz : ys.length ≤ sizeLine) : PostU C ι s (σ.set i (.list ys)) { s with heap := s.heap.update l (Obj.mapSeq f), toks := tk } := by
 have hk : ∀ b o, b ≠ l → s.heap.get? b = some o → (s.heap.update l (Obj.mapSeq f)).get? b = some o := fun b o hb e => (Heap.get?_update_ne _ _ _ _ hb).trans e
 have hsz : s.heap.objs.size ≤ (s.heap.update l (Obj.mapSeq f)).objs.size := by simp
 exact ⟨ι, R.set hl hk hsz (IsL.update ho f) ⟨rfl, rfl, rfl, _, _, rfl, hy, hz⟩, .set hl hk hsz, rfl, rfl⟩
theorem CallEv.append (hi : σ[i]? = some (.list xs)) (hz : xs.length < sizeLine) : CallEv C n (.builtin "list.append") [.loc i, v] σ .none (σ.set i (.list (xs ++ [v]))) := by
 intro A ι s rvs r R V
 obtain ⟨x, y, rfl, h1, h2⟩ := vr2 V
 obtain ⟨l, items, k, rfl, hl, ho, hx, _, hsz⟩ := R.isL h1 hi
 refine wpAny_call_entry slot_list_append ⟨_, ho, rfl⟩ entry_list_append ?_ (args_list_append _ _)
 show wpAny _ _ (updateSeq l (·.push y) >>= fun _ => ret .none) _ _ s
 refine wpAny_bind (wpAny_updateSeq ho rfl (wpAny_pure ⟨.none, rfl, PostU.none (upd_list (f := (·.push y)) R hl ho ?_ (by simp; lia))⟩) (by lia))
 rw [Array.toList_push]; exact hx.append (.cons h2 .nil)
theorem CallEv.extend (hi : σ[i]? = some (.list xs)) (hj : σ[j]? = some (.list ys)) (hz : xs.length + ys.length ≤ sizeLine) : CallEv C n (.builtin "list.extend") [.loc i, .loc j] σ .none (σ.set i (.list (xs ++ ys))) := by
 intro A ι s rvs r R V
 obtain ⟨x, y, rfl, h1, h2⟩ := vr2 V
 obtain ⟨l, items, k, rfl, hl, ho, hx, _, hs1⟩ := R.isL h1 hi
 obtain ⟨l', items', k', rfl, hl', ho', hx', _, hs2⟩ := R.isL h2 hj
 refine call_meets PySem.F.slot_list_extend ⟨_, ho, rfl⟩ PySem.F.entry_list_extend (PySem.F.args_list_extend_2 _ _)
  (AutoSeq1.list_extend_list_list_0 l items k l' items' k' (PyProof.Rows.extend_door (by lia)) (by lia) (by lia)) ⟨ho, ho', ?_⟩
 exact PostU.none (upd_list (f := fun x => x ++ items') R hl ho (by rw [Array.toList_append]; exact hx.append hx') (by simp; lia))
theorem CallEv.pop (hi : σ[i]? = some (.list (xs ++ [v]))) : CallEv C n (.builtin "list.pop") [.loc i] σ v (σ.set i (.list xs)) := by
 intro A ι s rvs r R V
 obtain ⟨x, rfl, h1⟩ := vr1 V
 obtain ⟨l, items, k, rfl, hl, ho, hx, hz, hsz⟩ := R.isL h1 hi
 have hlen : items.size = xs.length + 1 := by rw [hsz]; simp
 obtain ⟨y, hy, hv⟩ := hx.get (i := xs.length) (x := v) (by simp)
 have hy' : items[items.size - 1]? = some y := by rw [← Array.getElem?_toList, hlen]; simpa using hy
 refine call_meets PySem.F.slot_list_pop ⟨_, ho, rfl⟩ PySem.F.entry_list_pop (PySem.F.args_list_pop_1 _) (PySem.MeetsSeq.list_pop_last l _ k y hy' (by lia)) ⟨ho, ?_⟩
 obtain ⟨ι', R', S'⟩ := upd_list (C := C) (tk := s.toks) (ys := xs) (f := fun a => a.eraseIdxIfInBounds (items.size - 1)) R hl ho (by
  have : (items.eraseIdxIfInBounds (items.size - 1)).toList = items.toList.take xs.length := by
   unfold Array.eraseIdxIfInBounds
   rw [dif_pos (by lia), Array.toList_eraseIdx, hlen]
   simp only [Nat.add_sub_cancel]
   have hl : items.toList.length = xs.length + 1 := by simpa using hlen
   apply List.ext_getElem?
   intro q
   rw [List.getElem?_eraseIdx, List.getElem?_take]
   by_cases hq : q < xs.length
   ·simp [hq]
   ·simp only [hq, if_false]; exact List.getElem?_eq_none (by lia)
  rw [this]
  have := hx.take xs.length
  simpa using this) (by simp at hz; lia)
 exact ⟨ι', R', hv.step R .nil S'.heap, S'⟩
theorem CallEv.listL (hi : σ[i]? = some (.list xs)) : CallEv C n (.type "list") [.loc i] σ (.loc σ.length) (σ ++ [.list xs]) := by
 intro A ι s rvs r R V
 obtain ⟨x, rfl, h1⟩ := vr1 V
 obtain ⟨l, items, k, rfl, hl, ho, hx, hz, hsz⟩ := R.isL h1 hi
 refine call_list_seq l (.inl rfl) ho rfl rfl (fun h' c' hk hD => ?_) (by lia)
 have hs : s.heap.objs.size ≤ h'.objs.size := Nat.le_of_lt (Heap.lt_size hD)
 exact ⟨ι ++ [s.heap.objs.size], R.new (Nat.le_refl _) hk hs hD ⟨rfl, rfl, rfl, _, _, rfl, hx, hz⟩, ⟨_, rfl, by rw [← R.len]; exact List.getElem?_concat_length ..⟩, .new (Nat.le_refl _) hk hs, rfl, rfl⟩
theorem CallEv.listT (hz : xs.length ≤ sizeLine) : CallEv C n (.type "list") [.tup xs] σ (.loc σ.length) (σ ++ [.list xs]) := by
 intro A ι s rvs r R V
 obtain ⟨x, rfl, h1⟩ := vr1 V
 obtain ⟨l, items, k, rfl, ho, hx⟩ := h1
 refine call_list_seq l (.inr rfl) ho rfl rfl (fun h' c' hk hD => ?_) (by rw [← Array.length_toList, hx.length]; exact hz)
 have hs : s.heap.objs.size ≤ h'.objs.size := Nat.le_of_lt (Heap.lt_size hD)
 exact ⟨ι ++ [s.heap.objs.size], R.new (Nat.le_refl _) hk hs hD ⟨rfl, rfl, rfl, _, _, rfl, hx, hz⟩, ⟨_, rfl, by rw [← R.len]; exact List.getElem?_concat_length ..⟩, .new (Nat.le_refl _) hk hs, rfl, rfl⟩
theorem Op.addL (hi : σ[i]? = some (.list xs)) (hj : σ[j]? = some (.list ys)) (hz : xs.length + ys.length ≤ sizeLine) : Op C n [.loc i, .loc j] σ (binF .Add) (.loc σ.length) (σ ++ [.list (xs ++ ys)]) := by
 intro A ι s rvs r R V
 obtain ⟨x, y, rfl, h1, h2⟩ := vr2 V
 obtain ⟨l, items, k, rfl, hl, ho, hx, _, hs1⟩ := R.isL h1 hi
 obtain ⟨l', items', k', rfl, hl', ho', hx', _, hs2⟩ := R.isL h2 hj
 refine binaryOp_concat ⟨_, ho, rfl⟩ ⟨_, ho', rfl⟩ noFill_list_add seq_list_add (call_meets PySem.F.slot_list_add ⟨_, ho, rfl⟩ PySem.F.entry_list_add (PySem.F.args_list_add_2 _ _)
  (AutoSeq1.list___add___list_list_0 l items k l' items' k' (by lia)) ⟨ho, ho', ?_⟩)
 have := post_list (C := C) R (hx.append hx') (by simp; lia)
 have e : (items.toList ++ items'.toList).toArray = items ++ items' := by rw [← Array.toList_append]
 rw [e] at this
 exact this
noncomputable abbrev itemF : List Value → Sem Value := fun vs => getItem (vs.getD 0 .none) (vs.getD 1 .none)
theorem Op.itemL {p : Int} {q : Nat} (hi : σ[i]? = some (.list xs)) (h0 : p = (q : Int)) (hx : xs[q]? = some v) : Op C n [.loc i, .int p] σ itemF v σ := by
 intro A ι s rvs r R V
 obtain ⟨x, y, rfl, h1, h2⟩ := vr2 V
 obtain ⟨t, rfl⟩ := vrInt h2
 obtain ⟨l, items, rfl, hl, ho, hv, hz⟩ := R.isList h1 hi
 subst h0
 obtain ⟨u, hu, huv⟩ := hv.get hx
 have : q < xs.length := (List.getElem?_eq_some_iff.mp hx).1
 refine wpAny_getItem_list ho (by lia) (by rw [sizeLine_eq] at hz; lia) (x := u) (by rw [← Array.getElem?_toList]; simpa using hu) ⟨ι, R, huv, .refl ..⟩
theorem Op.itemT {p : Int} {q : Nat} (h0 : seqIndex? p xs.length = some q) (hx : xs[q]? = some v) (hp : -(2 ^ 63) ≤ p ∧ p < 2 ^ 63 := by decide) : Op C n [.tup xs, .int p] σ itemF v σ := by
 intro A ι s rvs r R V
 obtain ⟨x, y, rfl, h1, h2⟩ := vr2 V
 obtain ⟨t, rfl⟩ := vrInt h2
 obtain ⟨l, items, k, rfl, ho, hv⟩ := h1
 obtain ⟨u, hu, huv⟩ := hv.get hx
 exact getItem_tuple ⟨_, ho, rfl, k, rfl⟩ hp.1 hp.2 (by rw [← Array.length_toList, hv.length]; exact h0) (by rw [← Array.getElem?_toList]; exact hu) ⟨ι, R, huv, .refl ..⟩
theorem Op.itemD (hi : σ[i]? = some (.dict ep es)) (hf : Fits es k) (hk : dget es k = some v) : Op C (n + 1) [.loc i, k] σ itemF v σ := by
 intro A ι s rvs r R V
 obtain ⟨x, y, rfl, h1, h2⟩ := vr2 V
 obtain ⟨d, o, ds, rfl, hl, ho, hc, K, hd, X, hz⟩ := R.dict h1 hi
 have hT : s.TypeIs (.ref d) "dict" := ⟨o, ho, hc.1⟩
 show wpAny _ _ (getItem (.ref d) y) _ _ _
 unfold getItem
 refine wpAny_holding (wpAny_bind (wpAny_sequenceKey hT (by decide) ?_))
 refine wpAny_bind (wpAny_callSpecial?_slot (name := Str.ofString "__getitem__") hT slot_dict_getitem (wpAny_call_entry slot_dict_getitem hT entry_dict_getitem ?_ (args_dict_getitem _ _)))
 show wpAny _ _ (dictGet d y >>= _) _ _ s
 refine wpAny_bind (dictGet_R r.in1 ho hd X K.2 hf h2 fun tk => ?_)
 rw [hk]
 exact fun rv hv => wpAny_pure ⟨rv, rfl, wpAny_pure (post_here R hv)⟩
theorem Op.inD (hi : σ[i]? = some (.dict ep es)) (hf : Fits es k) : Op C (n + 1) [k, .loc i] σ (cmpF .In) (.bool (dhas es k)) σ := by
 intro A ι s rvs r R V
 obtain ⟨y, x, rfl, h2, h1⟩ := vr2 V
 obtain ⟨d, o, ds, rfl, hl, ho, hc, K, hd, X, hz⟩ := R.dict h1 hi
 have hT : s.TypeIs (.ref d) "dict" := ⟨o, ho, hc.1⟩
 show wpAny _ _ (do return Value.bool (← contains (.ref d) y)) _ _ _
 refine wpAny_bind ?_
 unfold contains
 refine wpAny_holding (wpAny_bind (wpAny_specialOf hT slot_dict_contains.lookup ?_))
 show wpAny _ _ (if (some (Value.builtin "dict.__contains__") == some Value.none) = true then _ else _) _ _ s
 rw [if_neg (by rw [beq_builtin_none]; exact Bool.false_ne_true)]
 refine wpAny_bind (wpAny_callSpecialUnlessNone?_slot (name := Str.ofString "__contains__") hT slot_dict_contains (wpAny_call_entry slot_dict_contains hT entry_dict_contains ?_ (args_dict_contains _ _)))
 show wpAny _ _ (dictGet d y >>= _) _ _ s
 refine wpAny_bind (dictGet_R r.in1 ho hd X K.2 hf h2 fun tk => ?_)
 have hh : dhas es k = (dget es k).isSome := by
  rw [dhas_iff]
  cases hi : kfind es k with
  | none => rw [dget_none hi]; rfl
  | some j => obtain ⟨v, hv⟩ := kfind_some hi; rw [dget_of hi hv]; rfl
 cases hg : dget es k with
 | some v =>
  intro rv _
  show wpAny _ _ (ret (.bool true)) _ _ _
  exact wpAny_pure ⟨_, rfl, wpAny_truthy_bool (wpAny_pure (post_here R (by rw [hh, hg]; exact rfl)))⟩
 | none =>
  show wpAny _ _ (Builtin.Dict.pendingKey? d y >>= _) _ _ _
  exact wpAny_bind (wpAny_pendingKey_other (R.noSys (List.mem_of_getElem? hl)) (wpAny_pure ⟨_, rfl, wpAny_truthy_bool (wpAny_pure (post_here R (by rw [hh, hg]; exact rfl)))⟩))
theorem Op.notInD (hi : σ[i]? = some (.dict ep es)) (hf : Fits es k) : Op C (n + 1) [k, .loc i] σ (cmpF .NotIn) (.bool (!dhas es k)) σ := by
 intro A ι s rvs r R V
 have h := Op.inD (n := n) hi hf A ι s rvs r R V
 obtain ⟨y, x, rfl, h2, h1⟩ := vr2 V
 have h : wpAny (model C.prog C.w) A (do return Value.bool (← contains x y)) (Post C ι s (.bool (dhas es k)) σ) (fun _ _ => False) s := h
 show wpAny _ _ (do return Value.bool (!(← contains x y))) _ _ _
 have h' : wpAny (model C.prog C.w) A (contains x y) (fun b s' => Post C ι s (.bool (dhas es k)) σ (.bool b) s') (fun _ _ => False) s := fun Γ p hΓ => by
  have := h Γ p hΓ
  rw [Sem.wp_bind'] at this
  exact this
 refine wpAny_bind (wpAny_mono h' (fun b s' p => wpAny_pure ?_) fun _ _ x => x)
 obtain ⟨ι', R', V', S'⟩ := p
 cases (V' : _ = _)
 exact ⟨ι', R', by first | exact rfl | exact ⟨_, rfl⟩, S'⟩
theorem CallEv.get2 {w : MV} (hi : σ[i]? = some (.dict ep es)) (hf : Fits es k) : CallEv C (n + 1) (.builtin "dict.get") [.loc i, k, w] σ ((dget es k).getD w) σ := by
 intro A ι s rvs r R V
 obtain ⟨x, y, z, rfl, h1, h2, h3⟩ := vr3 V
 obtain ⟨d, o, ds, rfl, hl, ho, hc, K, hd, X, hz⟩ := R.dict h1 hi
 have hT : s.TypeIs (.ref d) "dict" := ⟨o, ho, hc.1⟩
 refine wpAny_call_entry PySem.F.slot_dict_get hT PySem.F.entry_dict_get ?_ (PySem.F.args_dict_get_3 _ _ _)
 unfold Builtin.«dict.get»
 refine wpAny_bind ?_
 unfold Builtin.Dict.keyAndDefault
 refine wpAny_bind (wpAny_notOrdered_dict hT ?_)
 show wpAny _ _ (pure (d, y, some z)) _ _ s
 refine wpAny_pure ?_
 show wpAny _ _ (dictGet d y >>= _) _ _ s
 refine wpAny_bind (dictGet_R r.in1 ho hd X K.2 hf h2 fun tk => ?_)
 cases hg : dget es k with
 | some v => exact fun rv hv => wpAny_pure ⟨rv, rfl, post_here R hv⟩
 | none =>
  show wpAny _ _ (Builtin.Dict.missed d y >>= _) _ _ _
  exact wpAny_bind (wpAny_missed_other (R.noSys (List.mem_of_getElem? hl)) (wpAny_pure ⟨_, rfl, post_here R h3⟩))
theorem CallEv.setdefault {w : MV} (hi : σ[i]? = some (.dict ep es)) (hf : Fits es k) (hz : es.length < sizeLine) :
  CallEv C (n + 1) (.builtin "dict.setdefault") [.loc i, k, w] σ ((dget es k).getD w) (match dget es k with | some _ => σ | none => σ.set i (.dict (ep + 1) (es ++ [(k, w)]))) := by
 intro A ι s rvs r R V
 obtain ⟨x, y, z, rfl, h1, h2, h3⟩ := vr3 V
 obtain ⟨d, o, ds, rfl, hl, ho, hc, K, hd, X, _⟩ := R.dict h1 hi
 have hT : s.TypeIs (.ref d) "dict" := ⟨o, ho, hc.1⟩
 refine wpAny_call_entry PySem.F.slot_dict_setdefault hT PySem.F.entry_dict_setdefault ?_ (PySem.F.args_dict_setdefault_3 _ _ _)
 unfold Builtin.«dict.setdefault»
 refine wpAny_bind ?_
 unfold Builtin.Dict.keyAndDefault
 refine wpAny_bind (wpAny_notOrdered_dict hT ?_)
 show wpAny _ _ (pure (d, y, some z)) _ _ s
 refine wpAny_pure ?_
 show wpAny _ _ (if (d == sysModules) = true then _ else (dictSetDefault d y z >>= _)) _ _ s
 rw [if_neg (by rw [R.noSys (List.mem_of_getElem? hl)]; exact Bool.false_ne_true)]
 refine wpAny_bind ?_
 unfold dictSetDefault
 refine wpAny_holding (wpAny_bind (pyHash_R r.in1 (hf.imp (·.1) (·.1)) h2 fun tk => ?_))
 refine wpAny_bind (dictFind_R (s := { s with toks := tk }) r.in1 ho hd X K.2 hf h2 ?_)
 cases hk : kfind es k with
 | none =>
  have hg := dget_none hk
  refine wpAny_bind (wpAny_rule (wpAny_bind (wpAny_updateDictKeys (s := { s with toks := tk }) ho hd (wpAny_pure (wpAny_pure ⟨_, rfl, ?_⟩)) ?_)))
  ·rw [hg]
   obtain ⟨ι', R', S'⟩ := push_post (C := C) (tk := tk) R hl ho hc K hd X hf hk h2 h3 hz
   exact ⟨ι', R', h3.step R .nil S'.heap, S'⟩
  ·rw [← Array.length_toList, X.length]; lia
 | some q =>
  obtain ⟨v, hv⟩ := kfind_some hk
  obtain ⟨e, g1, g2, g3, g4⟩ := X.get hv
  have hg := dget_of hk hv
  refine wpAny_bind (wpAny_dictEntries (s := { s with toks := tk }) ho hd ?_)
  rw [← Array.getElem?_toList, g1]
  refine wpAny_bind (wpAny_rule (wpAny_pure (wpAny_pure ⟨_, rfl, ?_⟩)))
  rw [hg]
  exact post_here R g4
noncomputable def OpU (C : Cx) (n : Nat) (vs : List MV) (σ : MH) (f : List Value → Sem Unit) (σ' : MH) : Prop :=
 ∀ (A : Around) (ι : List Addr) (s : Shared) (rvs : List Value), Room A n → Rel C ι σ s.heap → VRs ι s.heap vs rvs → wpAny (model C.prog C.w) A (f rvs) (fun _ s' => PostU C ι s σ' s') (fun _ _ => False) s
noncomputable abbrev setF : List Value → Sem Unit := fun vs => setItem (vs.getD 0 .none) (vs.getD 1 .none) (vs.getD 2 .none)
theorem OpU.setD (hi : σ[i]? = some (.dict ep es)) (hf : Fits es k) (hz : es.length < sizeLine) : OpU C (n + 1) [.loc i, k, v] σ setF (σ.set i (dsto ep es k v)) := by
 intro A ι s rvs r R V
 obtain ⟨x, y, z, rfl, h1, h2, h3⟩ := vr3 V
 obtain ⟨d, o, ds, rfl, hl, ho, hc, K, hd, X, _⟩ := R.dict h1 hi
 have hT : s.TypeIs (.ref d) "dict" := ⟨o, ho, hc.1⟩
 show wpAny _ _ (setItem (.ref d) y z) _ _ _
 unfold setItem
 refine wpAny_holding (wpAny_bind (wpAny_sequenceKey hT (by decide) ?_))
 refine wpAny_bind (wpAny_callSpecial?_slot (name := Str.ofString "__setitem__") hT slot_dict_setitem (wpAny_call_entry slot_dict_setitem hT entry_dict_setitem ?_ (args_dict_setitem _ _ _)))
 show wpAny _ _ (Builtin.Dict.notOrdered "__setitem__" ⟨[.ref d, y, z], []⟩ >>= _) _ _ s
 refine wpAny_bind (wpAny_notOrdered_dict hT ?_)
 show wpAny _ _ (dictSet d y z >>= _) _ _ s
 exact wpAny_bind (dictSet_R r.in1 R hl ho hc K hd X hf h2 h3 hz fun s' p => wpAny_pure ⟨.none, rfl, wpAny_pure p⟩)
theorem OpU.setL {p : Int} {q : Nat} (hi : σ[i]? = some (.list xs)) (h0 : p = (q : Int)) (hq : q < xs.length) : OpU C n [.loc i, .int p, v] σ setF (σ.set i (.list (xs.set q v))) := by
 intro A ι s rvs r R V
 obtain ⟨x, y, z, rfl, h1, h2, h3⟩ := vr3 V
 obtain ⟨t, rfl⟩ := vrInt h2
 obtain ⟨l, items, m, rfl, hl, ho, hx, hz, hsz⟩ := R.isL h1 hi
 have hT : s.TypeIs (.ref l) "list" := ⟨_, ho, rfl⟩
 show wpAny _ _ (setItem (.ref l) (.int p t) z) _ _ _
 unfold setItem
 refine wpAny_holding (wpAny_bind (wpAny_sequenceKey hT (by decide) ?_))
 refine wpAny_bind (wpAny_callSpecial?_slot (name := Str.ofString "__setitem__") hT slot_list_setitem (wpAny_call_entry slot_list_setitem hT entry_list_setitem ?_ (args_list_setitem _ _ _)))
 show wpAny _ _ (Builtin.List.listSubscript? (.int p t) >>= _) _ _ s
 refine wpAny_bind (wpAny_listSubscript_int (fitsIndex_of (by lia) (by rw [sizeLine_eq] at hz; lia)) ?_)
 subst h0
 have hj : q < items.size := by lia
 have hx' : items[q]? = some items[q] := Array.getElem?_eq_getElem hj
 show wpAny _ _ ((seqItemAt l q >>= fun r => pure (r.map (q, ·))) >>= _) _ _ s
 refine wpAny_bind (wpAny_bind (wpAny_seqItemAt ho rfl (wpAny_pure ?_)))
 rw [hx']
 show wpAny _ _ (setSeqItemAt l q z >>= _) _ _ s
 refine wpAny_bind (wpAny_setSeqItemAt ho rfl (wpAny_pure ⟨.none, rfl, wpAny_pure (upd_list (f := (·.setIfInBounds q z)) R hl ho ?_ (by rw [List.length_set]; exact hz))⟩))
 rw [Array.toList_setIfInBounds]
 refine VRs.iff (by rw [List.length_set, List.length_set]; exact hx.length) fun a b c g1 g2 => ?_
 by_cases e : q = a
 ·subst e
  rw [List.getElem?_set_self hq] at g1
  rw [List.getElem?_set_self (by simpa using hj)] at g2
  cases g1; cases g2; exact h3
 ·rw [List.getElem?_set_ne e] at g1 g2
  obtain ⟨u, g3, g4⟩ := hx.get g1
  rw [g2] at g3; cases g3; exact g4
theorem CallEv.lenL (hi : σ[i]? = some (.list xs)) : CallEv C n (.builtin "len") [.loc i] σ (.int xs.length) σ := by
 intro A ι s rvs r R V
 obtain ⟨x, rfl, h1⟩ := vr1 V
 obtain ⟨l, items, m, rfl, hl, ho, hx, hz, hsz⟩ := R.isL h1 hi
 rw [sizeLine_eq] at hz
 have hz' : (items.size : Int) < 2 ^ 63 := by lia
 have hp : Post C ι s (.int xs.length) σ (.int items.size (s.toks + 1)) { s with toks := s.toks + 1 + 1 } := post_here R (by rw [hsz]; exact ⟨_, rfl⟩)
 have hL : s.heap.IsList l items := ⟨_, ho, rfl, m, rfl⟩
 have := PyProof.Rows.len_list (prog := C.prog) (w := C.w) (A := A) (E := fun _ _ => False) hL hz' hp
 exact this
end
end Mine
namespace Mine
open PySem PySem.W PyProof.Rows PySem.Calls PySem.Spec PySem.SeqAt
noncomputable def clsB (K : Frag) (Cl : Addr) : Bool := (clsIn K Cl).any (·.hasDict) && plainGet K Cl (Str.ofString "") && findIn K (.ref Cl) "__setattr__" == some (some (.builtin "object.__setattr__")) && plainOver K Cl && makesIn K Cl && keepIn K (.ref Cl)
noncomputable def attrB (K : Frag) (Cl : Addr) (a : Nat) : Bool := findIn K (.ref Cl) (tx a) == some none
noncomputable def methB (K : Frag) (Cl : Addr) (a : Nat) (f : Addr) : Bool := findIn K (.ref Cl) (tx a) == some (some (.ref f)) && isFn K (.ref f) && keepIn K (.ref f)
structure ClsOk (K : Frag) (Cl : Addr) : Prop where
 dict : (clsIn K Cl).any (·.hasDict) = true
 get : plainGet K Cl (Str.ofString "") = true
 set : findIn K (.ref Cl) "__setattr__" = some (some (.builtin "object.__setattr__"))
 over : plainOver K Cl = true
 makes : makesIn K Cl = true
 keep : keepIn K (.ref Cl) = true
theorem clsOk {K : Frag} {Cl : Addr} (h : clsB K Cl = true) : ClsOk K Cl := by
 simp only [clsB, Bool.and_eq_true, beq_iff_eq] at h
 exact ⟨h.1.1.1.1.1, h.1.1.1.1.2, h.1.1.1.2, h.1.1.2, h.1.2, h.2⟩
section
variable {C : Cx} {n : Nat} {A : Around} {E : Value → Shared → Prop} {ι : List Addr} {ρ : List (Nat × MV)} {σ σ₁ σ₂ σ₃ : MH} {s : Shared} {i j a m : Nat} {as : List (Nat × MV)} {v v₁ v₂ : MV} {rv : Value} {Cl : Addr}
theorem Rel.inst (R : Rel C ι σ s.heap) (hv : VR ι s.heap (.inst Cl m) rv) (hm : σ[m]? = some (.ns as)) :
  E6 fun x dx o es ep mm => N13 (rv = .ref x) (ι[m]? = some dx) (s.heap.get? x = some (instObj Cl dx)) (s.heap.get? dx = some o) (o.cls = .type "dict") (o.dict = none) (o.data = .dict es ep) (StrKeys es) (UniqKeys es) ((∀ x, nsFind es x = mm x)) (NSR ι s.heap as mm) (Within mm tab) (InstAt s.heap x (instObj Cl dx) Cl (some o)) := by
 obtain ⟨x, dx, rfl, hx, hdx⟩ := hv
 obtain ⟨o, ho, h1, h2, es, ep, mm, h3, h4, h5, h6, h7, h8⟩ := R.loc hdx hm
 exact ⟨x, dx, o, es, ep, mm, rfl, hdx, hx, ho, h1, h2, h3, h4, h5, h6, h7, h8, ⟨hx, rfl, rfl, ho⟩⟩
theorem lookIn_of {o : Obj} {es : Array DictEntry} {ep : Nat} {nm : Str} (hd : o.data = .dict es ep) (hk : StrKeys es) : lookIn nm o = some (nsFind es nm) := by
 obtain ⟨l⟩ := es
 unfold lookIn
 rw [hd]
 simp only [nsFind, findBy, List.find?_toArray]
 cases hf : l.find? fun e => e.key.isStr nm with
 | some e => rfl
 | none =>
  have : (l.any fun e => e.refKey) = false := by
   rw [List.any_eq_false]
   intro e he
   obtain ⟨x, t, h⟩ := hk e (by simpa using he)
   simp [DictEntry.refKey, h]
  simp [this]
theorem vr_handed {h : Heap} (hv : VR ι h v rv) (hr : ∀ u, v ≠ .raw u) : handedIn rv = true := by
 cases v with
 | raw u => exact absurd rfl (hr u)
 | none => have hv : _ = _ := hv; subst hv; rfl
 | bool _ => have hv : _ = _ := hv; subst hv; rfl
 | int _ => obtain ⟨_, rfl⟩ := hv; rfl
 | str _ => obtain ⟨_, _, _, rfl⟩ := hv; rfl
 | bytes _ => obtain ⟨_, rfl⟩ := hv; rfl
 | tup _ => obtain ⟨_, _, _, rfl, _⟩ := hv; rfl
 | loc _ => obtain ⟨_, rfl, _⟩ := hv; rfl
 | inst _ _ => obtain ⟨_, _, rfl, _⟩ := hv; rfl
theorem base_plain {M : Model} {x : Expr} {nm : Str} {env : Env} {whole : Sem Value} {Q : Value → Shared → Prop} (h : notSuper x = true) (hw : wpAny M A whole Q E s) : wpAny M A (attributeBase x nm env whole) Q E s := by
 unfold attributeBase
 split
 ·rename_i id p pos
  have h1 : (id != ("super" : Str)) = true := h
  simp only [h1, Bool.true_or, if_true]
  exact hw
 ·exact hw
theorem Ev.attr {e : IE} (h : Ev C n e ρ σ (.inst Cl m) σ₁) (hm : σ₁[m]? = some (.ns as)) (ha : alook as a = some v) (hc : clsB C.K Cl = true) (hat : attrB C.K Cl a = true) (hr : ∀ u, v ≠ .raw u := by intro _; nofun) : Ev C n (.attr e a) ρ σ v σ₁ := by
 intro F x A ι s hk ok r hA
 have K := clsOk hc
 replace hk := onAttribute_inv hk; obtain ⟨value, nm, pos, rfl, hk⟩ := hk
 obtain ⟨c1, c2, c3⟩ := and3 hk
 replace c2 := of_decide_eq_true c2
 rw [arm_eval_Attribute]
 refine wpAny_bind (base_plain c3 (wpAny_mono (h F value A ι s c1 ok r hA) (fun rv s₁ p => ?_) fun _ _ z => z))
 obtain ⟨ι₁, R₁, V₁, S₁⟩ := p
 obtain ⟨x, dx, o, es, ep, mm, rfl, hdx, hx, ho, g1, g2, g3, g4, g5, g6, g7, g8, I⟩ := R₁.inst V₁ hm
 have hns := g7 a nm c2
 rw [ha] at hns
 obtain ⟨rw, hw, hwv⟩ := hns
 refine wpAny_bind (wpAny_standAt (wpAny_bind (wpAny_holding ?_)))
 have hnm : nm = tx a := (tx_of c2).symm
 have hf : findIn C.K (.ref Cl) nm = some none := by rw [hnm]; exact beq_iff_eq.mp hat
 refine get_value R₁.inK I (plainGet_of K.get).1 (v := rw) ?_ (vr_handed hwv hr) (wpAny_bind (wpAny_letTemporaryGo (wpAny_pure ⟨ι₁, R₁.same (fun _ _ e => e) (Nat.le_refl _), hwv, S₁.heap, S₁.gens, S₁.os⟩)))
 obtain ⟨cd, hcd, hdd⟩ := any_some K.dict
 unfold findObj
 rw [hcd, Option.bind_some, hf, Option.bind_some]
 simp only [Option.bind_some]
 unfold W.ownOf
 rw [hdd, if_pos rfl]
 simp only [lookIn_of g3 g4, Option.bind_some, g6, hw]
theorem nsSet_R {M : Model} {dx : Addr} {o : Obj} {es : Array DictEntry} {ep : Nat} {mm : Str → Option Value} {nm : Str} {Q : Unit → Shared → Prop} (ho : s.heap.get? dx = some o) (hd : o.data = .dict es ep) (hk : StrKeys es) (hu : UniqKeys es) (hm : ∀ x, nsFind es x = mm x)
  (h : ∀ (f : Obj → Obj) tk, (f o).cls = o.cls → (f o).dict = o.dict → (∃ es' ep', (f o).data = .dict es' ep' ∧ StrKeys es' ∧ UniqKeys es' ∧ ∀ x, nsFind es' x = if x = nm then some rv else mm x) → Q () { s with heap := s.heap.update dx f, toks := tk }) :
  wpAny M A (nsSet dx nm rv) Q E s := fun Γ p _ => by
 simp only [nsSet, strHash, Sem.wp_bind', Sem.wp_cmd_ask, Sem.wp_pure', Sem.wp_cmd_mkText]
 rw [Sem.wp_loadPart_of M Γ _ p { s with toks := s.toks + 1 } (o := o) _ ho]
 have hany : es.any (·.refKey) = false := by
  rw [Array.any_eq_false']; intro e he; obtain ⟨n, t, h⟩ := hk e he; simp [DictEntry.refKey, h]
 simp only [hd, aRefKeyMayBeTheName_eq, aRefKeyMayBeTheNameByArray, hany, Bool.and_false, Bool.false_eq_true, if_false, Sem.wp_cmd_updatePart]
 refine ⟨by rw [ho]; rfl, h _ _ ?_ ?_ ?_⟩
 ·obtain ⟨c, d, dt, sl⟩ := o; subst hd
  cases hi : es.findIdx? (·.key.isStr nm) <;> simp only [Obj.putName_eq, Obj.putNameByArray, hi] <;> rfl
 ·obtain ⟨c, d, dt, sl⟩ := o; subst hd
  cases hi : es.findIdx? (·.key.isStr nm) <;> simp only [Obj.putName_eq, Obj.putNameByArray, hi] <;> rfl
 ·obtain ⟨c, d, dt, sl⟩ := o
  subst hd
  cases hi : es.findIdx? (·.key.isStr nm) with
  | some i =>
   refine ⟨_, ep, by simp only [Obj.putName_eq, Obj.putNameByArray, hi]; rfl, hk.modify _ _, hu.modify _ _, fun x => ?_⟩
   show _ = if x = nm then some rv else mm x
   rw [← hm]; exact findBy_modify (fun n v => v.isStr n) Value.isStr_inj es nm x rv i hi
  | none =>
   refine ⟨_, ep + 1, by simp only [Obj.putName_eq, Obj.putNameByArray, hi]; rfl, hk.push _ _ _ _, hu.push _ _ _ _ hi, fun x => ?_⟩
   show _ = if x = nm then some rv else mm x
   rw [← hm]
   exact findBy_push (fun n v => v.isStr n) es nm x _ _ rv (fun y => by
    show (nm == y) = decide (y = nm)
    by_cases h : y = nm
    ·subst h; simp
    ·have : ¬ nm = y := fun e => h e.symm
     simp [h, this]) hi
theorem setAttr_R {nm : Str} {Q : Unit → Shared → Prop} (R : Rel C ι σ s.heap) (hv : VR ι s.heap (.inst Cl m) rv) (hm : σ[m]? = some (.ns as)) (K : ClsOk C.K Cl) (ha : tab[a]? = some nm) (hat : attrB C.K Cl a = true) {rw : Value} (hw : VR ι s.heap v rw)
  (h : ∀ s', PostU C ι s (σ.set m (.ns (aset as a v))) s' → Q () s') : wpAny (model C.prog C.w) A (setAttr rv nm rw) Q E s := by
 obtain ⟨x, dx, o, es, ep, mm, rfl, hdx, hx, ho, g1, g2, g3, g4, g5, g6, g7, g8, I⟩ := R.inst hv hm
 have hf : findIn C.K (.ref Cl) nm = some none := by rw [← tx_of ha]; exact beq_iff_eq.mp hat
 refine set_plain R.inK I K.set (osa_open (s := { s with toks := s.toks + 1 }) R.inK I K.over (r := none) (by unfold takerIn; rw [hf]; rfl) fun b => ?_)
 obtain ⟨cd, hcd, hdd⟩ := any_some K.dict
 refine wpAny_bind (wpAny_pure (wpAny_bind (wpAny_bind (wpAny_loadPart hx (wpAny_bind (Looks.here (s := { s with toks := s.toks + 1 }) (looks_clsIn R.inK hcd) ?_))))))
 rw [hdd]
 refine wpAny_pure (a := some dx) (wpAny_bind (wpAny_pure (wpAny_bind ?_)))
 refine nsSet_R (s := { s with toks := s.toks + 1 }) ho g3 g4 g5 g6 fun f tk f1 f2 f3 => ?_
 obtain ⟨es', ep', f4, f5, f6, f7⟩ := f3
 have ho' : (s.heap.update dx f).get? dx = some (f o) := Heap.get?_update_self _ ho (Obj.isFreed_of_dict f4)
 have hW : Within (fun y => if y = nm then some rw else mm y) tab := fun y hy => by
  by_cases e : y = nm
  ·rw [e]; exact List.mem_of_getElem? ha
  ·simp only [e, if_false] at hy; exact g8 y hy
 have hcnt : es'.size ≤ sizeLine := by
  obtain ⟨o2, es2, ep2, q1, q2, q3⟩ := Heap.Ns1.count (h := s.heap.update dx f) (a := dx) (m := fun y => if y = nm then some rw else mm y) ⟨f o, es', ep', ho', f4, f5, f6, f7⟩ hW
  rw [ho'] at q1; cases q1
  rw [f4] at q2; cases q2
  rw [tab_len] at q3
  rw [sizeLine_eq]; exact Nat.le_trans q3 (by decide)
 refine wpAny_bind (wpAny_lookBehind (s := { s with heap := s.heap.update dx f, toks := tk }) ho' (by rw [f4]; exact pastItsLine_dict (Nat.le_succ_of_le hcnt)) ?_)
 refine wpAny_pure ?_
 refine h _ ?_
 have hk : ∀ b o, b ≠ dx → s.heap.get? b = some o → (s.heap.update dx f).get? b = some o := fun b o hb e => (Heap.get?_update_ne _ _ _ _ hb).trans e
 have hsz : s.heap.objs.size ≤ (s.heap.update dx f).objs.size := by simp
 refine ⟨ι, R.set hdx hk hsz ho' ⟨f1.trans g1, f2.trans g2, es', ep', _, f4, f5, f6, f7, fun i y hy => ?_, hW⟩, .set hdx hk hsz, rfl, rfl⟩
 by_cases e : i = a
 ·subst e
  rw [ha] at hy; cases hy
  rw [alook_aset_same]
  exact ⟨rw, by simp, hw⟩
 ·rw [alook_aset_ne _ _ e]
  have hne : y ≠ nm := fun q => e (tab_inj hy (q ▸ ha))
  simp only [hne, if_false]
  exact g7 i y hy
noncomputable def KeepOk (C : Cx) (f : Value) : Prop := (∀ a, f ≠ .ref a) ∨ keepIn C.K f = true
theorem keepOk_any {f : Value} (h : KeepOk C f) (H : Heap) (X : C.K.In H) : ∃ k, (k = Keeper.frame ∨ k = Keeper.machine ∨ k = Keeper.boundFrame) ∧ Looks (model C.prog C.w) H (keeperOf f) k := by
 rcases h with h | h
 ·refine ⟨.machine, .inr (.inl rfl), Looks.of_pure ?_⟩
  cases f <;> first | rfl | exact absurd rfl (h _)
 ·exact keeps_K h H X
theorem backTo_any {ns : Names} {pos : Pos} {env : Env} : ∀ {es : List IE} {xs : List Expr}, chks ns es xs = true → (backTo pos (starEach xs env)).any (·.1) = false
 | [], xs, h => by rw [nil_inv h]; rfl
 | e :: es, xs, h => by
  replace h := onCons_inv h; obtain ⟨x, xs, rfl, h⟩ := h
  rw [star1 (and3 h).2]
  exact backTo_any (and3 h).3
theorem callWith_R {F : Frm} {f : Value} {first : List Value} {es : List IE} {xs : List Expr} {pos : Pos} {vs : List MV} {Q : Value → Shared → Prop} (hc : chks F.env.scope.names es xs = true) (ok : FrmOk C F) (r : Room A n) (hA : At C F ι σ ρ s.heap)
  (h : EvL C n es ρ σ vs σ₁) (hk : KeepOk C f) (hq : ∀ ι₁ s₁ rvs, Rel C ι₁ σ₁ s₁.heap → VRs ι₁ s₁.heap vs rvs → Stp [] ι s ι₁ s₁ → wpAny (model C.prog C.w) A (call f (first ++ rvs) []) Q (fun _ _ => False) s₁) :
  wpAny (model C.prog C.w) A (callWith pos f first (backTo pos (starEach xs F.env)) []) Q (fun _ _ => False) s := by
 have hev := h F xs pos A ι s hc ok r hA
 refine callWith_of (P := fun H => C.K.In H) (by rw [backTo_any hc]; rfl) (keepOk_any hk) ?_
 cases es with
 | nil =>
  have := nil_inv hc; subst this
  show wpAny _ _ (evalArgs f true [] []) _ _ _
  unfold evalArgs
  show wpAny _ _ (spliced [] >>= _) _ _ _
  refine wpAny_bind (wpAny_mono hev (fun rvs s₁ p => ?_) fun _ _ z => z)
  obtain ⟨ι₁, R₁, V₁, S₁⟩ := p
  refine wpAny_bind (wpAny_pure (wpAny_holding ?_))
  exact wpAny_bind (wpAny_pure (wpAny_bind (wpAny_pure (wpAny_pure ⟨R₁.inK, hq ι₁ s₁ rvs R₁ V₁ S₁⟩))))
 | cons e es =>
  replace hc := onCons_inv hc; obtain ⟨x, xs, rfl, hc⟩ := hc
  rw [star1 (and3 hc).2] at hev ⊢
  refine evalArgs_plain (wpAny_mono hev (fun rvs s₁ p => ?_) fun _ _ z => z)
  obtain ⟨ι₁, R₁, V₁, S₁⟩ := p
  exact ⟨R₁.inK, hq ι₁ s₁ rvs R₁ V₁ S₁⟩
end
end Mine
namespace Mine
open PySem PySem.W PyProof.Rows PySem.Calls PySem.Spec PySem.SeqAt
section
variable {C : Cx} {n : Nat} {A : Around} {E : Value → Shared → Prop} {ι : List Addr} {ρ ρ' : List (Nat × MV)} {σ σ₁ σ₂ σ₃ : MH} {s : Shared} {i j a m : Nat} {as : List (Nat × MV)} {v v₁ v₂ : MV} {vs : List MV} {rv : Value} {Cl : Addr}
theorem call_R {F : Frm} {g : Nat} {args : List IE} {fv : Value} {e : Expr} {Q : Value → Shared → Prop} (hg : GOk C g (.raw fv)) (hk : KeepOk C fv) (ha : EvL C n args ρ σ vs σ₁) (hc : chk F.env.scope.names (.call (.glob g) args) e = true) (ok : FrmOk C F) (r : Room A n) (hA : At C F ι σ ρ s.heap)
  (hq : ∀ ι₁ s₁ rvs, Rel C ι₁ σ₁ s₁.heap → VRs ι₁ s₁.heap vs rvs → Stp [] ι s ι₁ s₁ → wpAny (model C.prog C.w) A (call fv rvs []) Q (fun _ _ => False) s₁) :
  wpAny (model C.prog C.w) A (eval e F.env) Q (fun _ _ => False) s := by
 replace hc := onCall_inv hc; obtain ⟨func, xs, kws, pos, rfl, hc⟩ := hc
 obtain ⟨c1, _, c0, c4, c5⟩ := and5 hc
 have := nil_inv c1; subst this
 clear hc c1
 have hn := onName_inv c0; obtain ⟨id, p, rfl, _⟩ := hn
 rw [arm_eval_Call_Name']
 refine wpAny_bind (wpAny_mono (Ev.glob (n := n) (ρ := ρ) (σ := σ) hg F (.Name id p) A ι s c0 ok r hA) (fun f s₁ p₁ => ?_) fun _ _ z => z)
 obtain ⟨ι₁, R₁, V₁, S₁⟩ := p₁
 have V₁ : _ = _ := V₁
 subst V₁
 exact callWith_R c4 ok r (hA.step ok R₁ S₁.heap) ha hk fun ι₂ s₂ rvs R₂ V₂ S₂ => hq ι₂ s₂ rvs R₂ V₂ (S₁.trans S₂)
theorem Ev.call {g : Nat} {args : List IE} {fv : Value} (hg : GOk C g (.raw fv)) (hk : KeepOk C fv) (ha : EvL C n args ρ σ vs σ₁) (h : CallEv C n fv vs σ₁ v σ₂) : Ev C n (.call (.glob g) args) ρ σ v σ₂ :=
 fun _ _ A ι s hc ok r hA => call_R hg hk ha hc ok r hA fun ι₂ s₂ rvs R₂ V₂ S₂ => wpAny_mono (h A ι₂ s₂ rvs r R₂ V₂) (fun _ _ p₃ => by
  obtain ⟨ι₃, R₃, V₃, S₃⟩ := p₃
  exact ⟨ι₃, R₃, V₃, S₂.trans S₃⟩) fun _ _ z => z
theorem chk_meth {ns : Names} {e : IE} {a : Nat} {args : List IE} {x : Expr} (hc : chk ns (.meth e a args) x = true) : E5 fun o nm ap xs pos => N7 (x = .Call (.Attribute o nm ap) xs [] pos) (chk ns e o = true) (tab[a]? = some nm) (chks ns args xs = true) (xs.length < 30) (notSuper o = true) ((ap.endLine == pos.line) = true) := by
 replace hc := onCall_inv hc; obtain ⟨func, xs, kws, pos, rfl, hc⟩ := hc
 replace hc := and2 hc; obtain ⟨c1, hc⟩ := hc
 have := nil_inv c1; subst this
 replace hc := onAttribute_inv hc; obtain ⟨o, nm, ap, rfl, hc⟩ := hc
 obtain ⟨c1, c2, c3, c4, c5, c6⟩ := and6 hc
 exact ⟨o, nm, ap, xs, pos, rfl, c1, of_decide_eq_true c2, c3, of_decide_eq_true c4, c5, c6⟩
theorem meth_R {F : Frm} {e : IE} {args : List IE} {x : Expr} {f : Value} (hc : chk F.env.scope.names (.meth e a args) x = true) (ok : FrmOk C F) (r : Room A n) (hA : At C F ι σ ρ s.heap) (h : Ev C n e ρ σ v₁ σ₁)
  (hm : ∀ (ι : List Addr) (s : Shared) (ov : Value) (nm : Str) (pl : Sem Bool) (Q : Value × List Value → Shared → Prop), Rel C ι σ₁ s.heap → VR ι s.heap v₁ ov → tab[a]? = some nm → Q (f, [ov]) s → wpAny (model C.prog C.w) A (getMethod ov nm pl) Q (fun _ _ => False) s)
  (hk : KeepOk C f) (ha : EvL C n args ρ σ₁ vs σ₂) (hq : CallEv C n f (v₁ :: vs) σ₂ v σ₃) : wpAny (model C.prog C.w) A (eval x F.env) (Post C ι s v σ₃) (fun _ _ => False) s := by
 obtain ⟨o, nm, ap, xs, pos, rfl, c1, c2, c3, c4, c5, c6⟩ := chk_meth hc
 rw [arm_eval_Call]
 refine wpAny_bind (base_plain c5 (wpAny_mono (h F o A ι s c1 ok r hA) (fun ov s₁ p₁ => ?_) fun _ _ z => z))
 obtain ⟨ι₁, R₁, V₁, S₁⟩ := p₁
 refine wpAny_bind (wpAny_standAt ?_)
 have hform : methodCallForm (xs.length + 0) (backTo pos (starEach xs F.env)) [] = true := by
  have h1 : (backTo pos (starEach xs F.env)).all (fun p => !p.1) = true := by
   have := backTo_any (pos := pos) (env := F.env) c3
   rw [List.any_eq_false] at this
   rw [List.all_eq_true]
   intro p hp; simpa using this p hp
  unfold methodCallForm
  rw [h1]
  simp; omega
 show wpAny _ _ (methodCall o nm ap pos F.env ov (xs.length + 0) (backTo pos (starEach xs F.env)) []) _ _ _
 unfold methodCall
 rw [hform]
 refine wpAny_bind (wpAny_holding ?_)
 show wpAny _ _ (getMethod ov nm _) _ _ _
 refine hm ι₁ s₁ ov nm _ _ R₁ V₁ c2 ?_
 show wpAny _ _ (methodCallPos true o F.env ap pos >>= _) _ _ _
 have hpos : methodCallPos true o F.env ap pos = pure pos := by
  unfold methodCallPos
  rw [c6]; rfl
 rw [hpos]
 refine wpAny_bind (wpAny_pure ?_)
 refine callWith_R c3 ok r (hA.step ok R₁ S₁.heap) ha hk fun ι₂ s₂ rvs R₂ V₂ S₂ => ?_
 refine wpAny_mono (hq A ι₂ s₂ ([ov] ++ rvs) r R₂ (.cons (V₁.step R₁ .nil S₂.heap) V₂)) (fun rv s₃ p₃ => ?_) fun _ _ z => z
 obtain ⟨ι₃, R₃, V₃, S₃⟩ := p₃
 exact ⟨ι₃, R₃, V₃, S₁.trans (S₂.trans S₃)⟩
theorem Ev.meth {e : IE} {args : List IE} {f : Addr} (h : Ev C n e ρ σ (.inst Cl m) σ₁) (hm : σ₁[m]? = some (.ns as)) (hs : alook as a = none) (hc : clsB C.K Cl = true) (hf : methB C.K Cl a f = true)
  (ha : EvL C n args ρ σ₁ vs σ₂) (hq : CallEv C n (.ref f) (.inst Cl m :: vs) σ₂ v σ₃) : Ev C n (.meth e a args) ρ σ v σ₃ := by
 intro F x A ι s hk ok r hA
 have K := clsOk hc
 simp only [methB, Bool.and_eq_true, beq_iff_eq] at hf
 refine meth_R hk ok r hA h (fun ι₁ s₁ ov nm pl Q R₁ V₁ ht hQ => ?_) (.inr hf.2) ha hq
 obtain ⟨x, dx, o, es, ep, mm, rfl, hdx, hx, ho, g1, g2, g3, g4, g5, g6, g7, g8, I⟩ := R₁.inst V₁ hm
 have hnm : nm = tx a := (tx_of ht).symm
 refine method_fn R₁.inK I (plainGet_of K.get).1 (plainGet_of K.get).2 (by rw [hnm]; exact hf.1.1) (beq_iff_eq.mp hf.1.2) ?_ hQ
 have := g7 a nm ht
 rw [hs] at this
 show (lookIn nm o).map _ = _
 rw [lookIn_of g3 g4, g6, this]; rfl
structure BMeth (T : String) (a : Nat) (id : String) : Prop where
 slot : Slot T (tx a) id
 typ : typeOf (.builtin id) = pure (.type "method_descriptor")
 plain : PlainAttrs T
noncomputable def kindOf (σ : MH) : MV → String
 | .tup _ => "tuple"
 | .loc i => match σ[i]? with
  | some (.list _) => "list"
  | some (.dict ..) => "dict"
  | _ => ""
 | _ => ""
theorem kind_type {ι : List Addr} {s : Shared} {T : String} (R : Rel C ι σ s.heap) (hv : VR ι s.heap v rv) (hT : kindOf σ v = T) (hne : T ≠ "") : E2 fun x o => N4 (rv = .ref x) (s.heap.get? x = some o) (o.cls = .type T) (o.dict = none) := by
 cases v with
 | tup xs => obtain ⟨x, items, k, rfl, ho, _⟩ := hv; exact ⟨x, _, rfl, ho, by rw [← hT]; rfl, rfl⟩
 | loc i =>
  simp only [kindOf] at hT
  cases hi : σ[i]? with
  | none => rw [hi] at hT; exact absurd hT.symm hne
  | some o =>
   rw [hi] at hT
   cases o with
   | list xs => obtain ⟨l, o, items, k, h1, h2, h3, h4, h5, _⟩ := R.list hv hi; exact ⟨l, o, h1, h3, by rw [h4, ← hT], h5⟩
   | dict ep es => obtain ⟨d, o, ds, h1, h2, h3, h4, _⟩ := R.dict hv hi; exact ⟨d, o, h1, h3, by rw [h4.1, ← hT], h4.2.1⟩
   | ns _ => exact absurd hT.symm hne
 | _ => exact absurd hT.symm hne
theorem Ev.methB {e : IE} {args : List IE} {T id : String} (h : Ev C n e ρ σ v₁ σ₁) (hT : kindOf σ₁ v₁ = T) (hb : BMeth T a id) (hne : T ≠ "" := by decide)
  (ha : EvL C n args ρ σ₁ vs σ₂) (hq : CallEv C n (.builtin id) (v₁ :: vs) σ₂ v σ₃) : Ev C n (.meth e a args) ρ σ v σ₃ := by
 intro F x A ι s hk ok r hA
 refine meth_R hk ok r hA h (fun ι₁ s₁ ov nm pl Q R₁ V₁ ht hQ => ?_) (.inl fun _ e => by cases e) ha hq
 obtain ⟨x, o, rfl, ho, hc, hd⟩ := kind_type R₁ V₁ hT hne
 rw [← tx_of ht]
 exact getMethod_builtin ⟨o, ho, hc⟩ hb.plain hb.slot hb.typ (fun b e => by cases e; exact ⟨o, ho, hd⟩) hQ
theorem getitem_slot {T : String} (h : T = "tuple" ∨ T = "list" ∨ T = "dict") : ∃ id, typeLookup (.type T) (Str.ofString "__getitem__") = pure (some (.builtin id)) := by
 rcases h with rfl | rfl | rfl
 ·exact ⟨_, PySem.F.slot_tuple_getitem.lookup⟩
 ·exact ⟨_, slot_list_getitem.lookup⟩
 ·exact ⟨_, slot_dict_getitem.lookup⟩
theorem kindOf_ok (h : kindOf σ v ≠ "") : kindOf σ v = "tuple" ∨ kindOf σ v = "list" ∨ kindOf σ v = "dict" := by
 cases v with
 | tup _ => exact .inl rfl
 | loc i =>
  simp only [kindOf] at h ⊢
  cases hi : σ[i]? with
  | none => rw [hi] at h; exact absurd rfl h
  | some o =>
   rw [hi] at h
   cases o with
   | list _ => exact .inr (.inl rfl)
   | dict _ _ => exact .inr (.inr rfl)
   | ns _ => exact absurd rfl h
 | _ => exact absurd rfl h
theorem Ev.sub {e ix : IE} (h1 : Ev C n e ρ σ v₁ σ₁) (h2 : Ev C n ix ρ σ₁ v₂ σ₂) (hT : kindOf σ₂ v₁ ≠ "") (h : Op C n [v₁, v₂] σ₂ itemF v σ₃) : Ev C n (.sub e ix) ρ σ v σ₃ := by
 intro F x A ι s hk ok r hA
 replace hk := onSubscript_inv hk; obtain ⟨value, slice, pos, rfl, hk⟩ := hk
 obtain ⟨c1, c2, c3⟩ := and3 hk
 ·refine Subscript_ (wpAny_mono (h1 F value A ι s c1 ok r hA) (fun ov s₁ p₁ => ?_) fun _ _ z => z)
  obtain ⟨ι₁, R₁, V₁, S₁⟩ := p₁
  refine wpAny_mono (h2 F slice A ι₁ s₁ c2 ok r (hA.step ok R₁ S₁.heap)) (fun iv s₂ p₂ => ?_) fun _ _ z => z
  obtain ⟨ι₂, R₂, V₂, S₂⟩ := p₂
  have V₁' := V₁.step R₁ .nil S₂.heap
  obtain ⟨x, o, rfl, ho, hc, hd⟩ := kind_type R₂ V₁' rfl hT
  obtain ⟨id, hid⟩ := getitem_slot (kindOf_ok hT)
  refine tail_any ⟨o, ho, hc⟩ hid (wpAny_mono (h A ι₂ s₂ [.ref x, iv] r R₂ (.cons V₁' (.cons V₂ .nil))) (fun rv s₃ p₃ => ?_) fun _ _ z => z) (ops := [.ref x, iv]) (by cases slice <;> first | rfl | exact ff c3)
  obtain ⟨ι₃, R₃, V₃, S₃⟩ := p₃
  exact ⟨ι₃, R₃, V₃, S₁.trans (S₂.trans S₃)⟩
end
structure FnOk (K : Frag) (f : Addr) (ps : List Nat) (k : Nat) (dv : List Value) (body : List IS) : Prop where
 ex : E3 fun (o : Obj) (fd : FuncData) (st : List Stmt) => N16 (K.lookup f = some o) (o.data = .func fd) (fd.body = .stmts st) (chkSs fd.scope.names body st = true) (codeIn K fd.code fd.qualname = true) (fd.scope.kind = .function) (fd.scope.isCoroutine = false) (fd.scope.isGenerator = false) (fd.closure = []) (fd.globals = mainGlobals) (fd.builtins = builtinsNs) ((∀ (s : Shared) (rvs : List Value), K.In s.heap → rvs.length = k → BindsTo s fd ⟨rvs, []⟩ ((ps.map tx).zip (rvs ++ dv)))) (ps.Nodup) ((∀ p ∈ ps, p < tab.length ∧ (fd.scope.names.lookup (tx p) = some .local ∨ fd.scope.names.lookup (tx p) = some .cell))) ((∀ x ∈ fd.scope.names, x.2 ≠ .free)) (((cellsFrom 0 fd.scope.names []).map (·.1)).Nodup)
theorem lookup_memS {β : Type} {y : Str} {c : β} : ∀ {l : List (Str × β)}, l.lookup y = some c → (y, c) ∈ l
 | [], q => by simp at q
 | b :: l, q => by
  rw [List.lookup_cons] at q
  split at q
  ·rename_i hb; cases q; rw [eq_of_beq hb]; simp
  ·exact List.mem_cons_of_mem _ (lookup_memS q)
theorem bindL_not {kindOf : Str → Option NameKind} {x : Str} : ∀ {bs : List (Str × Value)} {mm : Str → Option Value}, (∀ b ∈ bs, b.1 ≠ x) → bindL kindOf bs mm x = mm x
 | [], _, _ => rfl
 | (y, u) :: bs, mm, h => by
  have h1 : y ≠ x := h (y, u) (by simp)
  rw [bindL, bindL_not fun b hb => h b (by simp [hb])]
  split
  ·simp [Ne.symm h1]
  ·rfl
theorem bindC_not {kindOf : Str → Option NameKind} {x : Str} : ∀ {bs : List (Str × Value)} {mm : Str → Option Value}, (∀ b ∈ bs, b.1 ≠ x) → bindC kindOf bs mm x = mm x
 | [], _, _ => rfl
 | (y, u) :: bs, mm, h => by
  have h1 : y ≠ x := h (y, u) (by simp)
  rw [bindC, bindC_not fun b hb => h b (by simp [hb])]
  split
  ·rfl
  ·simp [Ne.symm h1]
theorem zip_names {ps : List Nat} {x : Str} {rvs : List Value} (h : ∀ p ∈ ps, tx p ≠ x) : ∀ b ∈ (ps.map tx).zip rvs, b.1 ≠ x := fun b hb e => by
 obtain ⟨p, hp, q⟩ := List.mem_map.mp (List.of_mem_zip hb).1
 exact h p hp (q.trans e)
theorem alook_zip_mem : ∀ {ps : List Nat} {args : List MV} {p : Nat} {v : MV}, alook (ps.zip args) p = some v → p ∈ ps
 | [], _, _, _, h => by simp [alook] at h
 | _ :: _, [], _, _, h => by simp [alook] at h
 | q :: ps, u :: args, p, v, h => by
  simp only [List.zip_cons_cons, alook] at h
  split at h
  ·rename_i e; rw [Nat.eq_of_beq_eq_true e]; simp
  ·exact List.mem_cons_of_mem _ (alook_zip_mem h)
theorem bind_get {ι : List Addr} {h : Heap} {kindOf : Str → Option NameKind} : ∀ {ps : List Nat} {args : List MV} {rvs : List Value} {m cm : Str → Option Value} {p : Nat} {v : MV}, VRs ι h args rvs → ps.Nodup → (∀ q ∈ ps, q < tab.length) → alook (ps.zip args) p = some v →
  (kindOf (tx p) = some .local → ∃ rv, bindL kindOf ((ps.map tx).zip rvs) m (tx p) = some rv ∧ VR ι h v rv) ∧ (kindOf (tx p) ≠ some .local → ∃ rv, bindC kindOf ((ps.map tx).zip rvs) cm (tx p) = some rv ∧ VR ι h v rv)
 | [], _, _, _, _, _, _, _, _, _, hl => by simp [alook] at hl
 | _ :: _, [], _, _, _, _, _, _, _, _, hl => by simp [alook] at hl
 | q :: ps, u :: args, rvs, m, cm, p, v, hV, hn, ht, hl => by
  obtain ⟨rv, r, rfl, h1, h2⟩ := hV
  rw [List.nodup_cons] at hn
  simp only [List.zip_cons_cons, alook] at hl
  have hq : q < tab.length := ht q (by simp)
  rw [List.map_cons, List.zip_cons_cons]
  split at hl
  ·rename_i e
   have e := Nat.eq_of_beq_eq_true e
   subst e
   cases hl
   have hno : ∀ b ∈ (ps.map tx).zip r, b.1 ≠ tx q := zip_names fun p hp e => hn.1 ((tx_inj (ht p (by simp [hp])) hq e) ▸ hp)
   refine ⟨fun hk => ⟨rv, ?_, h1⟩, fun hk => ⟨rv, ?_, h1⟩⟩
   ·rw [bindL, bindL_not hno, if_pos hk]; simp
   ·rw [bindC, bindC_not hno, if_neg hk]; simp
  ·rw [bindL, bindC]
   exact bind_get h2 hn.2 (fun z hz => ht z (by simp [hz])) hl
section
variable {C : Cx} {n k : Nat} {A : Around} {ρ' : List (Nat × MV)} {σ σ₁ σ₂ σ₃ : MH} {args ds : List MV} {dv : List Value} {v : MV} {f : Addr} {ps : List Nat} {body : List IS} {fl : Fl}
noncomputable def CodeEv (C : Cx) (n : Nat) (fv : Value) (vs : List MV) (σ : MH) (v : MV) (σ' : MH) : Prop :=
 ∀ (A : Around) (ι : List Addr) (s : Shared) (rvs : List Value) (RR : Result → Shared → Prop), Room A n → Rel C ι σ s.heap → VRs ι s.heap vs rvs → (∀ rv s', Post C ι s v σ' rv s' → RR (.ok (.ret rv)) s') → codeAny (model C.prog C.w) A (.call fv ⟨rvs, []⟩) RR s
theorem CodeEv.call {fv : Value} {vs : List MV} {σ' : MH} (h : CodeEv C n fv vs σ v σ') : CallEv C n fv vs σ v σ' := fun A ι s rvs r R V =>
 wpAny_call (h A ι s rvs _ r R V fun _ _ p => p)
theorem CodeEv.fnD (hf : FnOk C.K f ps k dv body) (hl : args.length = k) (hd : ∀ ι h, VRs ι h ds dv) (hx : Xs C n body (ps.zip (args ++ ds)) σ fl ρ' σ₁) (hv : fl = .ret v ∨ (fl = .next ∧ v = .none)) : CodeEv C (n + 1) (.ref f) args σ v σ₁ := by
 intro A ι s rvs RR r R V hRR
 obtain ⟨o, fd, st, ho, hdat, hbody, hchk, hcode, hkind, hco, hge, hclo, hglob, hbui, hbind, hnod, hps, hfree, hcn⟩ := hf.ex
 have hT := R.top
 refine codeAny_call_function r.depth (R.inK _ _ ho) hdat hco hge hbody (codeRec_of R.inK hcode) (hbind s rvs R.inK (by rw [V.length, hl]) _ _ _ _ ?_)
 rw [hclo, hglob, hbui]
 refine wpAny_newFunctionEnv_cells hkind (fun y hy => ?_) fun env' he s' x => ?_
 ·obtain ⟨p, hp, e⟩ := List.mem_map.mp (List.of_mem_zip hy).1
  rw [← e]
  exact (hps p hp).2.imp id fun q => ⟨q, cellsFrom_some _ _ _ (.inl q)⟩
 have heap' : E2 fun h tk => s' = { s with heap := h, toks := tk } := by obtain ⟨h, tk, e⟩ := x.toInCall.same; exact ⟨h, tk, e⟩
 obtain ⟨h₁, tk, rfl⟩ := heap'
 have hk₁ := x.toInCall.keep
 have hsz : s.heap.objs.size ≤ h₁.objs.size := Nat.le_of_lt (Nat.lt_of_le_of_lt x.toInCall.fresh x.toInCall.ns.lt)
 refine ⟨(hT.nolimit).keeps hk₁, codeAny_func ?_⟩
 have hel : env'.locals = s.heap.objs.size := by rw [he]; rfl
 have hes : env'.scope = fd.scope := by rw [he]; rfl
 have hec : env'.cells = cellsFrom (s.heap.objs.size + 1) fd.scope.names [] := by rw [he]; rfl
 have hmemc : ∀ y c, env'.cells.lookup y = some c → (y, c) ∈ env'.cells := fun y c q => lookup_memS q
 let F : Frm := { env := env', D := env'.locals :: env'.cells.map (·.2), own := true }
 have hge : ∀ a ∈ F.D, s.heap.objs.size ≤ a := fun a ha => by
  rcases List.mem_cons.mp ha with e | e
  ·rw [e, hel]; exact Nat.le_refl _
  ·obtain ⟨⟨y, c⟩, hm, rfl⟩ := List.mem_map.mp e
   exact Nat.le_of_lt (hel ▸ x.above y c hm)
 have ok : FrmOk C F := {
  kind := by show env'.scope.kind = _; rw [hes]; exact hkind
  globals := by show env'.globals = _; rw [he]; rfl
  builtins := by show env'.builtins = _; rw [he]; rfl
  locals := List.mem_cons_self
  above := fun a ha => Nat.le_trans R.size (hge a ha)
  cell := fun _ y c _ hc => ⟨List.mem_cons_of_mem _ (List.mem_map.mpr ⟨(y, c), hmemc y c hc, rfl⟩), Nat.ne_of_gt (x.above y c (hmemc y c hc))⟩
  cells := fun _ y z c _ h1 h2 => by
   have p1 := hmemc y c h1
   have p2 := hmemc z c h2
   obtain ⟨i, hi⟩ := List.mem_iff_getElem?.mp p1
   obtain ⟨j, hj⟩ := List.mem_iff_getElem?.mp p2
   have hil := (List.getElem?_eq_some_iff.mp hi)
   have hjl := (List.getElem?_eq_some_iff.mp hj)
   have hij : i = j := by
    rcases Nat.lt_trichotomy i j with q | q | q
    ·have := List.pairwise_iff_getElem.mp x.apart i j hil.1 hjl.1 q
     rw [hil.2, hjl.2] at this; exact absurd rfl this
    ·exact q
    ·have := List.pairwise_iff_getElem.mp x.apart j i hjl.1 hil.1 q
     rw [hil.2, hjl.2] at this; exact absurd rfl this
   subst hij
   rw [hi] at hj; cases hj; rfl }
 have R₁ : Rel C ι σ h₁ := R.same hk₁ hsz
 have V₁ : VRs ι h₁ (args ++ ds) (rvs ++ dv) := (VRs.map (fun _ _ e => e) (fun b o _ e => hk₁ b o e) V).append (hd _ _)
 have hat : At C F ι σ (ps.zip (args ++ ds)) h₁ := {
  rel := R₁
  vars := by
   refine ⟨_, x.toInCall.ns, fun i y hy => ?_⟩
   have hty : tx i = y := tx_of hy
   have hkf : F.env.kindOf y = fd.scope.names.lookup y := by show env'.scope.names.lookup y = _; rw [hes]
   have hget : ∀ v, alook (ps.zip (args ++ ds)) i = some v → _ := fun v hv => bind_get (kindOf := env'.kindOf) (m := fun _ => none) (cm := fun _ => none) V₁ hnod (fun q hq => (hps q hq).1) hv
   cases hk : F.env.kindOf y with
   | none => trivial
   | some kd =>
    cases kd with
    | «local» =>
     intro v hv
     have := (hget v hv).1 (by rw [hty]; exact hk)
     rw [hty] at this; exact this
    | cell =>
     have hcs : (env'.cells.lookup y).isSome = true := by rw [hec]; exact cellsFrom_some _ _ _ (.inl (by rw [← hkf]; exact hk))
     obtain ⟨c, hc⟩ := Option.isSome_iff_exists.mp hcs
     obtain ⟨oc, h1, h2⟩ := x.cell y c hc
     refine ⟨c, oc, _, hc, h1, h2, fun v hv => ?_⟩
     have := (hget v hv).2 (by rw [hty]; show F.env.kindOf y ≠ _; rw [hk]; simp)
     rw [hty] at this; exact this
    | free =>
     exfalso
     rw [hkf] at hk
     have : (y, NameKind.free) ∈ fd.scope.names := lookup_memS hk
     exact hfree _ this rfl
    | globalExplicit => trivial
    | globalImplicit => trivial
  dok := fun a ha => by
   refine ⟨fun q => absurd (R.lt q) (Nat.not_lt.mpr (hge a ha)), ?_⟩
   rcases List.mem_cons.mp ha with e | e
   ·obtain ⟨o', es, ep, h1, h2, _⟩ := x.toInCall.ns
    exact ⟨o', e ▸ h1, .inl ⟨es, ep, h2⟩⟩
   ·obtain ⟨⟨y, c⟩, hm, rfl⟩ := List.mem_map.mp e
    have hc' : env'.cells.lookup y = some c := by
     rw [hec] at hm ⊢
     exact lookup_of_mem_nodup (cellsFrom_names fd.scope.names 0 (s.heap.objs.size + 1) [] [] rfl ▸ hcn) hm
    obtain ⟨oc, h1, h2⟩ := x.cell y c hc'
    exact ⟨oc, h1, .inr (.inl ⟨_, h2⟩)⟩ }
 refine wpAny_mono (hx F st (A.deeper env') ι { s with heap := h₁, toks := tk } (by show chkSs env'.scope.names _ _ = _; rw [hes]; exact hchk) ok rfl r.deeper hat) (fun fw s₂ p => ?_) fun _ _ z => z.elim
 obtain ⟨ι₂, A₂, L₂, S₂⟩ := p
 have S₀ : Stp [] ι s ι { s with heap := h₁, toks := tk } := ⟨.same hk₁ hsz, rfl, rfl⟩
 have S : Stp [] ι s ι₂ s₂ := (S₀.any.trans S₂).clean fun a ha => .inr (hge a ha)
 rcases hv with rfl | ⟨rfl, rfl⟩
 ·obtain ⟨rv, rfl, hrv⟩ := L₂
  exact hRR _ _ ⟨ι₂, A₂.rel, hrv, S⟩
 ·simp only [FlR] at L₂
  subst L₂
  exact hRR _ _ ⟨ι₂, A₂.rel, by first | exact rfl | exact ⟨_, rfl⟩, S⟩
theorem CallEv.fn (hf : FnOk C.K f ps k [] body) (hx : Xs C n body (ps.zip args) σ fl ρ' σ₁) (hv : fl = .ret v ∨ (fl = .next ∧ v = .none)) (hl : args.length = k := by rfl) : CallEv C (n + 1) (.ref f) args σ v σ₁ :=
 (CodeEv.fnD (ds := []) hf hl (fun _ _ => .nil) (by simpa using hx) hv).call
noncomputable def fnB (K : Frag) (f : Addr) (ps : List Nat) (body : List IS) : Bool := match K.lookup f with
 | some o => match o.data with
  | .func fd => match fd.body with
   | .stmts st => chkSs fd.scope.names body st && codeIn K fd.code fd.qualname && fd.scope.kind == .function && !fd.scope.isCoroutine && !fd.scope.isGenerator && fd.closure.isEmpty && fd.globals == mainGlobals && fd.builtins == builtinsNs &&
     ps.all (fun p => decide (p < tabN) && (fd.scope.names.lookup (tx p) == some .local || fd.scope.names.lookup (tx p) == some .cell)) && fd.scope.names.all (fun x => !(x.2 == .free)) && decide ((cellsFrom 0 fd.scope.names []).map (·.1)).Nodup
   | _ => false
  | _ => false
 | none => false
noncomputable def bindOf (K : Frag) (f : Addr) (rvs : List Value) : Option (Sem (List (Str × Value))) := match K.lookup f with
 | some o => match o.data with
  | .func fd => some (bindArgs fd ⟨rvs, []⟩)
  | _ => none
 | none => none
theorem fnOkD {K : Frag} (h : fnB K f ps body = true) (hn : ps.Nodup) (hb : ∀ (o : Obj) (fd : FuncData), K.lookup f = some o → o.data = .func fd → ∀ (s : Shared) (rvs : List Value), K.In s.heap → rvs.length = k → BindsTo s fd ⟨rvs, []⟩ ((ps.map tx).zip (rvs ++ dv))) : FnOk K f ps k dv body := by
 unfold fnB at h
 cases hl : K.lookup f with
 | none => rw [hl] at h; cases h
 | some o =>
  rw [hl] at h
  dsimp only at h
  cases hd : o.data with
  | func fd =>
   rw [hd] at h
   dsimp only at h
   cases hs : fd.body with
   | stmts st =>
    rw [hs] at h
    simp only [Bool.and_eq_true, Bool.not_eq_true', beq_iff_eq, List.isEmpty_iff, List.all_eq_true, decide_eq_true_eq, Bool.or_eq_true] at h
    obtain ⟨⟨⟨⟨⟨⟨⟨⟨⟨⟨h1, h2⟩, h3⟩, h4⟩, h5⟩, h6⟩, h7⟩, h8⟩, h9⟩, h10⟩, h11⟩ := h
    exact ⟨o, fd, st, hl, hd, hs, h1, h2, h3, h4, h5, h6, h7, h8, hb o fd hl hd, hn, fun p hp => ⟨by rw [tab_len]; exact (h9 p hp).1, (h9 p hp).2⟩, fun x hx q => by have := h10 x hx; rw [q] at this; simp at this, h11⟩
   | _ => rw [hs] at h; cases h
  | _ => rw [hd] at h; cases h
theorem fnOk {K : Frag} (h : fnB K f ps body = true) (hn : ps.Nodup) (hb : ∀ rvs, rvs.length = k → bindOf K f rvs = some (pure ((ps.map tx).zip rvs))) : FnOk K f ps k [] body :=
 fnOkD h hn fun o fd h1 h2 s rvs _ hl => BindsTo.of_eq (by
  have := hb rvs hl
  unfold bindOf at this
  rw [h1] at this
  simp only [h2] at this
  rw [List.append_nil]
  exact Option.some.inj this)
theorem fnOk1 {K : Frag} (h : fnB K f ps body = true) (hn : ps.Nodup) (hb : ∀ a, bindOf K f [a] = some (pure ((ps.map tx).zip [a]))) : FnOk K f ps 1 [] body := fnOk h hn (all1 hb)
theorem fnOk2a {K : Frag} (h : fnB K f ps body = true) (hn : ps.Nodup) (hb : ∀ a b, bindOf K f [a, b] = some (pure ((ps.map tx).zip [a, b]))) : FnOk K f ps 2 [] body := fnOk h hn (all2 hb)
theorem fnOk3 {K : Frag} (h : fnB K f ps body = true) (hn : ps.Nodup) (hb : ∀ a b c, bindOf K f [a, b, c] = some (pure ((ps.map tx).zip [a, b, c]))) : FnOk K f ps 3 [] body := fnOk h hn (all3 hb)
theorem fnOk5 {K : Frag} (h : fnB K f ps body = true) (hn : ps.Nodup) (hb : ∀ a b c d e, bindOf K f [a, b, c, d, e] = some (pure ((ps.map tx).zip [a, b, c, d, e]))) : FnOk K f ps 5 [] body := fnOk h hn (all5 hb)
theorem fnOk0 {K : Frag} (h : fnB K f ps body = true) (hn : ps.Nodup) (hb : bindOf K f [] = some (pure ((ps.map tx).zip []))) : FnOk K f ps 0 [] body := fnOk h hn (all0 hb)
end
end Mine
namespace Mine
open PySem PySem.W PyProof.Rows PySem.Calls PySem.Spec PySem.SeqAt
section
variable {C : Cx} {n : Nat} {A : Around} {F : Frm} {ι : List Addr} {ρ ρ' : List (Nat × MV)} {σ σ₁ σ₂ σ₃ : MH} {s : Shared} {i j a m : Nat} {as : List (Nat × MV)} {v v₁ v₂ v₃ : MV} {vs : List MV} {rv : Value} {Cl : Addr} {x : Str}
theorem isOwn_kind (h : isOwn F.env.scope.names x = true) : F.env.kindOf x = some .local ∨ F.env.kindOf x = some .cell := by
 unfold isOwn at h
 unfold Env.kindOf
 cases hl : F.env.scope.names.lookup x with
 | none => rw [hl] at h; cases h
 | some k => rw [hl] at h; cases k <;> simp at h ⊢
theorem store_R (hi : tab[i]? = some x) (hx : F.env.kindOf x = some .local ∨ (F.own = true ∧ F.env.kindOf x = some .cell)) (ok : FrmOk C F) (hA : At C F ι σ ρ s.heap) (hv : VR ι s.heap v rv) :
  wpAny (model C.prog C.w) A (storeName F.env x rv) (fun _ s' => At C F ι σ (aset ρ i v) s'.heap ∧ Stp F.D ι s ι s') (fun _ _ => False) s := by
 obtain ⟨mm, hm, hr⟩ := hA.vars
 have hij : ∀ {j : Nat} {y : Str}, tab[j]? = some y → y = x → j = i := fun hj e => tab_inj hj (e ▸ hi)
 rcases hx with hx | ⟨hown, hx⟩
 ·refine wpAny_storeName_local hx hm (fun h' hn' hs' => ?_) (by rw [ok.kind]; rfl)
  have hk : ∀ b o, b ≠ F.env.locals → s.heap.get? b = some o → h'.get? b = some o := fun b o hb e => (hs'.2 b hb).trans e
  have hkD : ∀ b o, b ∉ F.D → s.heap.get? b = some o → h'.get? b = some o := fun b o hb e => hk b o (fun q => hb (q ▸ ok.locals)) e
  have hsz : s.heap.objs.size ≤ h'.objs.size := Nat.le_of_eq hs'.1.symm
  have S : Step F.D ι s.heap ι h' := ⟨⟨[], by simp, by simp⟩, fun b o _ hb e => hkD b o hb e, hsz⟩
  have R' : Rel C ι σ h' := hA.rel.dirty hA.dok hkD hsz ok.above
  have hV : ∀ {u : MV} {ru : Value}, VR ι s.heap u ru → VR ι h' u ru := fun z => z.step hA.rel hA.dok S
  refine ⟨⟨R', ⟨_, hn', fun j y hy => ?_⟩, fun b hb => ⟨(hA.dok b hb).1, ?_⟩⟩, S, rfl, rfl⟩
  ·have := hr j y hy
   have cellCase : (y ≠ x) → (∃ c o vo, F.env.cells.lookup y = some c ∧ s.heap.get? c = some o ∧ o.data = .cell vo ∧ ∀ v, alook ρ j = some v → ∃ rv, vo = some rv ∧ VR ι s.heap v rv) →
     ∃ c o vo, F.env.cells.lookup y = some c ∧ h'.get? c = some o ∧ o.data = .cell vo ∧ ∀ u, alook (aset ρ i v) j = some u → ∃ rv, vo = some rv ∧ VR ι h' u rv := by
    rintro hne ⟨c, o, vo, h1, h2, h4, h5⟩
    refine ⟨c, o, vo, h1, hk c o (fun q => ?_) h2, h4, fun u hu => ?_⟩
    ·obtain ⟨o', es, ep, g1, g2, _⟩ := hm
     rw [q, g1] at h2; cases h2; rw [g2] at h4; cases h4
    ·rw [alook_aset_ne] at hu
     ·obtain ⟨rv, g1, g2⟩ := h5 u hu; exact ⟨rv, g1, hV g2⟩
     ·exact fun q => hne (by rw [q] at hy; rw [hi] at hy; cases hy; rfl)
   revert this
   cases hky : F.env.kindOf y with
   | none => exact id
   | some k =>
    cases k with
    | «local» =>
     intro this u hu
     by_cases hyx : y = x
     ·rw [hij hy hyx, alook_aset_same] at hu
      cases hu
      exact ⟨rv, by simp [hyx], hV hv⟩
     ·rw [alook_aset_ne] at hu
      ·obtain ⟨ru, g1, g2⟩ := this u hu
       exact ⟨ru, by simp only [hyx, if_false]; exact g1, hV g2⟩
      ·exact fun q => hyx (by rw [q] at hy; rw [hi] at hy; cases hy; rfl)
    | cell => exact cellCase fun q => by rw [q, hx] at hky; cases hky
    | free => exact cellCase fun q => by rw [q, hx] at hky; cases hky
    | globalExplicit => exact id
    | globalImplicit => exact id
  ·by_cases hb' : b = F.env.locals
   ·obtain ⟨o', es, ep, g1, g2, _⟩ := hn'
    exact ⟨o', hb' ▸ g1, .inl ⟨es, ep, g2⟩⟩
   ·obtain ⟨o, g1, g2⟩ := (hA.dok b hb).2
    exact ⟨o, hk b o hb' g1, g2⟩
 ·have hcx := hr i x hi
  rw [hx] at hcx
  obtain ⟨c, oc, vo, c1, c2, c3, c4⟩ := hcx
  obtain ⟨hcD, hcl⟩ := ok.cell hown x c hx c1
  refine wpAny_storeName_cell ok.kind hx c1 ⟨oc, c2, c3⟩ fun h' hn' hs' => ?_
  have hk : ∀ b o, b ≠ c → s.heap.get? b = some o → h'.get? b = some o := fun b o hb e => (hs'.2 b hb).trans e
  have hkD : ∀ b o, b ∉ F.D → s.heap.get? b = some o → h'.get? b = some o := fun b o hb e => hk b o (fun q => hb (q ▸ hcD)) e
  have hsz : s.heap.objs.size ≤ h'.objs.size := Nat.le_of_eq hs'.1.symm
  have S : Step F.D ι s.heap ι h' := ⟨⟨[], by simp, by simp⟩, fun b o _ hb e => hkD b o hb e, hsz⟩
  have R' : Rel C ι σ h' := hA.rel.dirty hA.dok hkD hsz ok.above
  have hV : ∀ {u : MV} {ru : Value}, VR ι s.heap u ru → VR ι h' u ru := fun z => z.step hA.rel hA.dok S
  refine ⟨⟨R', ⟨mm, hm.at' fun o e => hk _ o (Ne.symm hcl) e, fun j y hy => ?_⟩, fun b hb => ⟨(hA.dok b hb).1, ?_⟩⟩, S, rfl, rfl⟩
  ·have := hr j y hy
   have cellCase : (∃ c o vo, F.env.cells.lookup y = some c ∧ s.heap.get? c = some o ∧ o.data = .cell vo ∧ ∀ v, alook ρ j = some v → ∃ rv, vo = some rv ∧ VR ι s.heap v rv) →
     ∃ c o vo, F.env.cells.lookup y = some c ∧ h'.get? c = some o ∧ o.data = .cell vo ∧ ∀ u, alook (aset ρ i v) j = some u → ∃ rv, vo = some rv ∧ VR ι h' u rv := by
    rintro ⟨c', o, vo, h1, h2, h4, h5⟩
    by_cases hcc : c' = c
    ·subst hcc
     have hyx := ok.cells hown x y c' hx c1 h1
     obtain ⟨o', g1, g2⟩ := hn'
     refine ⟨c', o', some rv, h1, g1, g2, fun u hu => ?_⟩
     rw [hij hy hyx.symm, alook_aset_same] at hu
     cases hu
     exact ⟨rv, rfl, hV hv⟩
    ·refine ⟨c', o, vo, h1, hk c' o hcc h2, h4, fun u hu => ?_⟩
     rw [alook_aset_ne] at hu
     ·obtain ⟨ru, g1, g2⟩ := h5 u hu; exact ⟨ru, g1, hV g2⟩
     ·intro q
      rw [q, hi] at hy; cases hy
      rw [c1] at h1; cases h1; exact hcc rfl
   revert this
   cases hky : F.env.kindOf y with
   | none => exact id
   | some k =>
    cases k with
    | «local» =>
     intro this u hu
     rw [alook_aset_ne] at hu
     ·obtain ⟨ru, g1, g2⟩ := this u hu; exact ⟨ru, g1, hV g2⟩
     ·intro q
      rw [q, hi] at hy; cases hy
      rw [hx] at hky; cases hky
    | cell => exact cellCase
    | free => exact cellCase
    | globalExplicit => exact id
    | globalImplicit => exact id
  ·by_cases hb' : b = c
   ·obtain ⟨o', g1, g2⟩ := hn'
    exact ⟨o', hb' ▸ g1, .inr (.inl ⟨_, g2⟩)⟩
   ·obtain ⟨o, g1, g2⟩ := (hA.dok b hb).2
    exact ⟨o, hk b o hb' g1, g2⟩
theorem At.ext {h : Heap} (hA : At C F ι σ ρ h) (he : ∀ i, alook ρ' i = alook ρ i) : At C F ι σ ρ' h := by
 refine ⟨hA.rel, ?_, hA.dok⟩
 obtain ⟨m, h1, h2⟩ := hA.vars
 exact ⟨m, h1, fun i x hx => by rw [he i]; exact h2 i x hx⟩
noncomputable def asets : List (Nat × MV) → List Nat → List MV → List (Nat × MV)
 | ρ, [], _ => ρ
 | ρ, _ :: _, [] => ρ
 | ρ, i :: is, v :: vs => asets (aset ρ i v) is vs
theorem alook_asets_not : ∀ {is : List Nat} {vs : List MV} {ρ : List (Nat × MV)} {j : Nat}, j ∉ is → alook (asets ρ is vs) j = alook ρ j
 | [], _, _, _, _ => rfl
 | _ :: _, [], _, _, _ => rfl
 | i :: is, v :: vs, ρ, j, h => by
  rw [asets, alook_asets_not (fun q => h (by simp [q])), alook_aset_ne _ _ (fun q => h (by simp [q]))]
theorem asets_append : ∀ {is js : List Nat} {vs ws : List MV} {ρ : List (Nat × MV)}, is.length = vs.length → asets ρ (is ++ js) (vs ++ ws) = asets (asets ρ is vs) js ws
 | [], _, [], _, _, _ => rfl
 | [], _, _ :: _, _, _, h => by simp at h
 | _ :: _, _, [], _, _, h => by simp at h
 | i :: is, js, v :: vs, ws, ρ, h => by
  show asets (aset ρ i v) (is ++ js) (vs ++ ws) = _
  rw [asets_append (by simpa using h)]; rfl
theorem alook_asets_rev : ∀ {is : List Nat} {vs : List MV} {ρ : List (Nat × MV)} (j : Nat), is.Nodup → is.length = vs.length → alook (asets ρ is.reverse vs.reverse) j = alook (asets ρ is vs) j
 | [], [], _, _, _, _ => rfl
 | [], _ :: _, _, _, _, h => by simp at h
 | _ :: _, [], _, _, _, h => by simp at h
 | i :: is, v :: vs, ρ, j, hn, hl => by
  rw [List.nodup_cons] at hn
  have hl' : is.length = vs.length := by simpa using hl
  rw [List.reverse_cons, List.reverse_cons, asets_append (by simp [hl'])]
  show alook (aset (asets ρ is.reverse vs.reverse) i v) j = alook (asets (aset ρ i v) is vs) j
  rw [← alook_asets_rev (ρ := aset ρ i v) j hn.2 hl']
  by_cases h : j = i
  ·subst h
   rw [alook_aset_same, alook_asets_not (by simpa using hn.1), alook_aset_same]
  ·rw [alook_aset_ne _ _ h, alook_asets_rev j hn.2 hl', alook_asets_rev j hn.2 hl']
   by_cases hj : j ∈ is
   ·-- both set j behind
    clear hl
    have key : ∀ (is : List Nat) (vs : List MV) (ρ₁ ρ₂ : List (Nat × MV)), is.length = vs.length → j ∈ is → alook (asets ρ₁ is vs) j = alook (asets ρ₂ is vs) j := by
     intro is
     induction is with
     | nil => intro _ _ _ _ hj; simp at hj
     | cons k ks ih =>
      intro vs ρ₁ ρ₂ hl hj
      cases vs with
      | nil => simp at hl
      | cons u us =>
       simp only [asets]
       by_cases hk : j ∈ ks
       ·exact ih us _ _ (by simpa using hl) hk
       ·have : j = k := by simpa [hk] using hj
        subst this
        rw [alook_asets_not hk, alook_asets_not hk, alook_aset_same, alook_aset_same]
    exact key _ _ _ _ hl' hj
   ·rw [alook_asets_not hj, alook_asets_not hj, alook_aset_ne _ _ h]
theorem chkN_inv {ns : Names} {e : Expr} (h : chkN ns i e = true) : ∃ id p, e = .Name id p ∧ tab[i]? = some id ∧ isOwn ns id = true := by
 replace h := onName_inv h; obtain ⟨id, p, rfl, h⟩ := h
 exact ⟨id, p, rfl, of_decide_eq_true (and3 h).1, (and3 h).2⟩
theorem order_R : ∀ {is : List Nat} {vs : List MV} {rvs : List Value} {ρ : List (Nat × MV)} {s : Shared} {names : List Str} (fs : List (Value → Sem Unit)), fs.length = is.length → names.length = is.length →
  (∀ (k i : Nat) (x : Str), is[k]? = some i → names[k]? = some x → tab[i]? = some x ∧ (F.env.kindOf x = some .local ∨ (F.own = true ∧ F.env.kindOf x = some .cell))) →
  (∀ (k : Nat) (f : Value → Sem Unit) (x : Str), fs[k]? = some f → names[k]? = some x → ∀ (v : Value) (Q : Unit → Shared → Prop) (s : Shared), wpAny (model C.prog C.w) A (storeName F.env x v) Q (fun _ _ => False) s → wpAny (model C.prog C.w) A (f v) Q (fun _ _ => False) s) →
  FrmOk C F → vs.length = is.length → At C F ι σ ρ s.heap → VRs ι s.heap vs rvs →
  wpAny (model C.prog C.w) A (assignInOrder fs rvs) (fun _ s' => At C F ι σ (asets ρ is vs) s'.heap ∧ Stp F.D ι s ι s') (fun _ _ => False) s
 | [], [], rvs, ρ, s, _, fs, hf, _, _, _, ok, _, hA, hV => by
  have hV : _ = _ := hV; subst hV
  cases fs with
  | nil => exact wpAny_pure ⟨hA, .refl ..⟩
  | cons _ _ => simp at hf
 | [], _ :: _, _, _, _, _, _, _, _, _, _, _, h, _, _ => by simp at h
 | _ :: _, [], _, _, _, _, _, _, _, _, _, _, h, _, _ => by simp at h
 | i :: is, v :: vs, rvs, ρ, s, names, fs, hf, hl, hn, hg, ok, hvl, hA, hV => by
  obtain ⟨rv, r, rfl, h1, h2⟩ := hV
  cases fs with
  | nil => simp at hf
  | cons f fs =>
   cases names with
   | nil => simp at hl
   | cons x xs =>
    obtain ⟨hi, hk⟩ := hn 0 i x rfl rfl
    show wpAny _ _ (do holding r (f rv); assignInOrder fs r) _ _ _
    refine wpAny_bind (wpAny_holding (hg 0 f x rfl rfl _ _ _ (wpAny_mono (store_R hi hk ok hA h1) (fun _ s₁ p => ?_) fun _ _ z => z)))
    obtain ⟨A₁, S₁⟩ := p
    refine wpAny_mono (order_R (is := is) (vs := vs) (names := xs) fs (by simpa using hf) (by simpa using hl) (fun k i x a b => hn (k + 1) i x (by simpa using a) (by simpa using b))
     (fun k f x a b => hg (k + 1) f x (by simpa using a) (by simpa using b)) ok (by simpa using hvl) A₁ (h2.step hA.rel hA.dok S₁.heap)) (fun _ s₂ p => ⟨p.1, S₁.trans p.2⟩) fun _ _ z => z
end
end Mine
namespace Mine
open PySem PySem.W PyProof.Rows PySem.Calls PySem.Spec PySem.SeqAt
section
variable {prog : Program} {w : World} {A : Around} {E : Value → Shared → Prop} {s : Shared}
theorem list_end {it t : Addr} {i : Nat} {items : Array Value} {Q : Option Value → Shared → Prop} (hh : A.handled = none) (hit : s.heap.IsListIter it t i) (ht : s.heap.IsList t items) (hx : items[i]? = none)
  (hQ : ∀ h', Heap.ExtBut it s.heap h' → s.heap.objs.size ≤ h'.objs.size → Q none { s with heap := h' }) : wpAny (model prog w) A (pyNext (.ref it)) Q E s := by
 obtain ⟨o, ho, hc, hd⟩ := id hit
 obtain ⟨ol, hol, _, nl, hdl⟩ := ht
 unfold pyNext
 refine wpAny_bind (wpAny_attempt (wpAny_callSpecial?_slot (name := Str.ofString "__next__") hit.typeIs slot_listiter_next
  (wpAny_call_entry slot_listiter_next hit.typeIs entry_listiter_next ?_ (args_listiter_next _))))
 show wpAny _ _ (field (.ref it) 0 >>= _) _ _ s
 refine wpAny_bind (wpAny_field ho hd (x := .ref t) rfl ?_)
 show wpAny _ _ (if (Value.ref t == Value.none) = true then _ else _) _ _ s
 rw [if_neg (show ¬ ((Value.ref t == Value.none) = true) from Bool.false_ne_true)]
 show wpAny _ _ (field (.ref it) 1 >>= _) _ _ s
 refine wpAny_bind (wpAny_field ho hd (x := .int i 0) rfl ?_)
 show wpAny _ _ (seqItems? (.ref t) >>= _) _ _ s
 refine wpAny_bind (wpAny_seqItems hol hdl ?_)
 simp only [Int.toNat_natCast, hx]
 refine wpAny_bind (wpAny_rule (wpAny_bind (wpAny_setField ho hd (by simp) ?_)))
 show wpAny _ _ (newExc (.type "StopIteration") [] >>= _) _ _ _
 refine wpAny_bind ?_
 simp only [newExc, newTuple]
 refine wpAny_bind (wpAny_newObj_type ?_ (by size_fits))
 refine wpAny_bind (m := firstArgMember _ _) (wpAny_of_eq (a := Value.none) (by first | rfl | (simp only [firstArgMember]; rfl)) ?_)
 refine wpAny_newObj_type ?_ (by size_fits)
 simp only [raiseNew]
 refine wpAny_bind (wpAny_handled ?_)
 first | rw [show A.in1.handled = none from hh] | rw [hh]
 refine wpAny_bind (wpAny_pure (wpAny_throw ?_))
 refine wpAny_bind (wpAny_isInstance (T := "StopIteration") (b := true) ⟨_, Heap.get?_push_size _ rfl, rfl⟩ isSubtype_stop ?_)
 exact wpAny_pure (hQ _ (((Heap.SameBut.update ..).extBut.push _).push _) (by simp [Heap.size_after_update]; lia))
theorem tuple_end {it t : Addr} {i : Nat} {items : Array Value} {Q : Option Value → Shared → Prop} (hh : A.handled = none) (hit : s.heap.IsTupleIter it t i) (ht : s.heap.IsTuple t items) (hx : items[i]? = none)
  (hQ : ∀ h', Heap.ExtBut it s.heap h' → s.heap.objs.size ≤ h'.objs.size → Q none { s with heap := h' }) : wpAny (model prog w) A (pyNext (.ref it)) Q E s := by
 obtain ⟨o, ho, hc, hd⟩ := id hit
 obtain ⟨ol, hol, _, nl, hdl⟩ := ht
 unfold pyNext
 refine wpAny_bind (wpAny_attempt (wpAny_callSpecial?_slot (name := Str.ofString "__next__") hit.typeIs F.slot_tuple_iterator_next
  (wpAny_call_entry F.slot_tuple_iterator_next hit.typeIs F.entry_tuple_iterator_next ?_ (F.args_tuple_iterator_next_1 _))))
 show wpAny _ _ (field (.ref it) 0 >>= _) _ _ s
 refine wpAny_bind (wpAny_field ho hd (x := .ref t) rfl ?_)
 show wpAny _ _ (if (Value.ref t == Value.none) = true then _ else _) _ _ s
 rw [if_neg (show ¬ ((Value.ref t == Value.none) = true) from Bool.false_ne_true)]
 show wpAny _ _ (field (.ref it) 1 >>= _) _ _ s
 refine wpAny_bind (wpAny_field ho hd (x := .int i 0) rfl ?_)
 show wpAny _ _ (seqItems? (.ref t) >>= _) _ _ s
 refine wpAny_bind (wpAny_seqItems hol hdl ?_)
 simp only [Int.toNat_natCast, hx]
 refine wpAny_bind (wpAny_rule (wpAny_bind (wpAny_setField ho hd (by simp) ?_)))
 show wpAny _ _ (newExc (.type "StopIteration") [] >>= _) _ _ _
 refine wpAny_bind ?_
 simp only [newExc, newTuple]
 refine wpAny_bind (wpAny_newObj_type ?_ (by size_fits))
 refine wpAny_bind (m := firstArgMember _ _) (wpAny_of_eq (a := Value.none) (by first | rfl | (simp only [firstArgMember]; rfl)) ?_)
 refine wpAny_newObj_type ?_ (by size_fits)
 simp only [raiseNew]
 refine wpAny_bind (wpAny_handled ?_)
 first | rw [show A.in1.handled = none from hh] | rw [hh]
 refine wpAny_bind (wpAny_pure (wpAny_throw ?_))
 refine wpAny_bind (wpAny_isInstance (T := "StopIteration") (b := true) ⟨_, Heap.get?_push_size _ rfl, rfl⟩ isSubtype_stop ?_)
 exact wpAny_pure (hQ _ (((Heap.SameBut.update ..).extBut.push _).push _) (by simp [Heap.size_after_update]; lia))
theorem range_end {it : Addr} {x left step : Int} {Q : Option Value → Shared → Prop} (hh : A.handled = none) (hit : IsRangeIter s.heap it x left step) (hleft : left ≤ 0)
  (hQ : ∀ h', Heap.ExtBut it s.heap h' → s.heap.objs.size ≤ h'.objs.size → Q none { s with heap := h' }) : wpAny (model prog w) A (pyNext (.ref it)) Q E s := by
 have hT : s.TypeIs (.ref it) "range_iterator" := ⟨_, hit, rfl⟩
 unfold pyNext
 refine wpAny_bind (wpAny_attempt (wpAny_callSpecial?_slot (name := Str.ofString "__next__") hT F.slot_range_iterator_next
  (wpAny_call_entry F.slot_range_iterator_next hT F.entry_range_iterator_next ?_ (F.args_range_iterator_next_1 _))))
 show wpAny _ _ (field (.ref it) 0 >>= _) _ _ s
 refine wpAny_bind (wpAny_field hit rfl (x := rawInt x) rfl ?_)
 show wpAny _ _ (field (.ref it) 1 >>= _) _ _ s
 refine wpAny_bind (wpAny_field hit rfl (x := rawInt left) rfl ?_)
 show wpAny _ _ (field (.ref it) 2 >>= _) _ _ s
 refine wpAny_bind (wpAny_field hit rfl (x := rawInt step) rfl ?_)
 show wpAny _ _ (if left ≤ 0 then _ else _) _ _ s
 rw [if_pos hleft]
 refine wpAny_bind (wpAny_rule ?_)
 refine wpAny_bind ?_
 show wpAny _ _ (newExc (.type "StopIteration") [] >>= _) _ _ _
 refine wpAny_bind ?_
 simp only [newExc, newTuple]
 refine wpAny_bind (wpAny_newObj_type ?_ (by size_fits))
 refine wpAny_bind (m := firstArgMember _ _) (wpAny_of_eq (a := Value.none) (by first | rfl | (simp only [firstArgMember]; rfl)) ?_)
 refine wpAny_newObj_type ?_ (by size_fits)
 simp only [raiseNew]
 refine wpAny_bind (wpAny_handled ?_)
 first | rw [show A.in1.handled = none from hh] | rw [hh]
 refine wpAny_bind (wpAny_pure (wpAny_throw ?_))
 refine wpAny_bind (wpAny_isInstance (T := "StopIteration") (b := true) ⟨_, Heap.get?_push_size _ rfl, rfl⟩ isSubtype_stop ?_)
 exact wpAny_pure (hQ _ (((Heap.ExtBut.refl _ _).push _).push _) (by simp; lia))
theorem key_item {it d : Addr} {i k ep : Nat} {od : Obj} {es : Array DictEntry} {e : DictEntry} {Q : Option Value → Shared → Prop} (hit : s.heap.IsKeyIter it d i k ep) (hod : s.heap.get? d = some od) (hdd : od.data = .dict es ep) (hsz : es.size = k) (hx : es[i]? = some e)
  (hQ : ∀ h', h'.IsKeyIter it d (i + 1) k ep → Heap.SameBut it s.heap h' → Q (some e.key) { s with heap := h' }) : wpAny (model prog w) A (pyNext (.ref it)) Q E s := by
 obtain ⟨o, ho, hc, hd⟩ := id hit
 have hT := hit.typeIs
 unfold pyNext
 refine wpAny_bind (wpAny_attempt (wpAny_callSpecial?_slot (name := Str.ofString "__next__") hT F.slot_dict_keyiterator_next
  (wpAny_call_entry F.slot_dict_keyiterator_next hT F.entry_dict_keyiterator_next ?_ (F.args_dict_keyiterator_next_1 _))))
 refine wpAny_bind (wpAny_pure ?_)
 refine wpAny_bind ?_
 refine wpAny_bind ?_
 first | refine wpAny_bind (wpAny_typeNameOfWhole_keyiter hT (wpAny_pure ?_)) | refine wpAny_bind (wpAny_typeNameOf_keyiter hT (wpAny_pure ?_))
 refine wpAny_bind (wpAny_fieldsOf ho hd ?_)
 have hown : Builtin.Dict_items.ownsTuple "dict_keyiterator" = false := by decide
 simp only [hown, Bool.false_eq_true, if_false]
 show wpAny _ _ (if (Value.ref d == Value.none) = true then _ else _) _ _ s
 rw [if_neg (show ¬ ((Value.ref d == Value.none) = true) from Bool.false_ne_true)]
 refine wpAny_bind (wpAny_pure ?_)
 refine wpAny_bind (wpAny_dictEntries hod hdd ?_)
 rw [if_neg (by simp [hsz])]
 refine wpAny_bind (wpAny_pure ?_)
 refine wpAny_bind (wpAny_dictEpoch hod hdd ?_)
 rw [if_neg (by simp)]
 refine wpAny_pure ?_
 obtain ⟨hlt, rfl⟩ := Array.getElem?_eq_some_iff.mp hx
 simp only [show ¬ ((i : Int) < 0) from by lia, if_false, Int.toNat_natCast, Array.getElem?_eq_getElem hlt]
 refine wpAny_bind ?_
 first | refine wpAny_bind (wpAny_typeNameOfWhole_keyiter hT (wpAny_pure ?_)) | refine wpAny_bind (wpAny_typeNameOf_keyiter hT (wpAny_pure ?_))
 refine wpAny_bind (wpAny_isOneOf_keyiter hT ?_)
 show wpAny _ _ (setField (.ref it) 1 (rawInt ((i : Int) + 1)) >>= _) _ _ s
 refine wpAny_bind (wpAny_setField ho hd (by simp) ?_)
 have hit' : (s.heap.update it (Obj.mapFields (·.setIfInBounds 1 (rawInt ((i : Int) + 1))))).IsKeyIter it d (i + 1) k ep :=
  ⟨_, Heap.get?_update_self _ ho (Obj.isFreed_of_fields (Obj.data_mapFields hd _)), (Obj.cls_mapFields ..).trans hc, by rw [Obj.data_mapFields hd]; simp [rawInt]⟩
 refine wpAny_bind (wpAny_holding ?_)
 refine wpAny_bind (wpAny_isOneOf_keyiter (s := { s with heap := s.heap.update it (Obj.mapFields (·.setIfInBounds 1 (rawInt ((i : Int) + 1)))) }) hit'.typeIs ?_)
 show wpAny _ _ (pure es[i].key) _ _ _
 exact wpAny_pure (wpAny_pure ⟨_, rfl, wpAny_pure (hQ _ hit' (Heap.SameBut.update ..))⟩)
theorem key_end {it d : Addr} {i k ep : Nat} {od : Obj} {es : Array DictEntry} {Q : Option Value → Shared → Prop} (hh : A.handled = none) (hit : s.heap.IsKeyIter it d i k ep) (hod : s.heap.get? d = some od) (hdd : od.data = .dict es ep) (hsz : es.size = k) (hge : es.size ≤ i)
  (hQ : ∀ h', Heap.ExtBut it s.heap h' → s.heap.objs.size ≤ h'.objs.size → Q none { s with heap := h' }) : wpAny (model prog w) A (pyNext (.ref it)) Q E s := by
 obtain ⟨o, ho, hc, hd⟩ := id hit
 have hT := hit.typeIs
 unfold pyNext
 refine wpAny_bind (wpAny_attempt (wpAny_callSpecial?_slot (name := Str.ofString "__next__") hT F.slot_dict_keyiterator_next
  (wpAny_call_entry F.slot_dict_keyiterator_next hT F.entry_dict_keyiterator_next ?_ (F.args_dict_keyiterator_next_1 _))))
 refine wpAny_bind (wpAny_pure ?_)
 refine wpAny_bind ?_
 refine wpAny_bind ?_
 first | refine wpAny_bind (wpAny_typeNameOfWhole_keyiter hT (wpAny_pure ?_)) | refine wpAny_bind (wpAny_typeNameOf_keyiter hT (wpAny_pure ?_))
 refine wpAny_bind (wpAny_fieldsOf ho hd ?_)
 have hown : Builtin.Dict_items.ownsTuple "dict_keyiterator" = false := by decide
 simp only [hown, Bool.false_eq_true, if_false]
 show wpAny _ _ (if (Value.ref d == Value.none) = true then _ else _) _ _ s
 rw [if_neg (show ¬ ((Value.ref d == Value.none) = true) from Bool.false_ne_true)]
 refine wpAny_bind (wpAny_pure ?_)
 refine wpAny_bind (wpAny_dictEntries hod hdd ?_)
 rw [if_neg (by simp [hsz])]
 refine wpAny_bind (wpAny_pure ?_)
 refine wpAny_bind (wpAny_dictEpoch hod hdd ?_)
 rw [if_neg (by simp)]
 refine wpAny_pure ?_
 simp only [show ¬ ((i : Int) < 0) from by lia, if_false, Int.toNat_natCast, Array.getElem?_eq_none hge]
 refine wpAny_bind ?_
 first | refine wpAny_bind (wpAny_typeNameOfWhole_keyiter hT (wpAny_pure ?_)) | refine wpAny_bind (wpAny_typeNameOf_keyiter hT (wpAny_pure ?_))
 show wpAny _ _ (setField (.ref it) 0 .none >>= _) _ _ s
 refine wpAny_bind (wpAny_setField ho hd (by simp) ?_)
 show wpAny _ _ (newExc (.type "StopIteration") [] >>= _) _ _ _
 refine wpAny_bind ?_
 simp only [newExc, newTuple]
 refine wpAny_bind (wpAny_newObj_type ?_ (by size_fits))
 refine wpAny_bind (m := firstArgMember _ _) (wpAny_of_eq (a := Value.none) (by first | rfl | (simp only [firstArgMember]; rfl)) ?_)
 refine wpAny_newObj_type ?_ (by size_fits)
 simp only [raiseNew]
 refine wpAny_bind (wpAny_handled ?_)
 first | rw [show A.in1.handled = none from hh] | rw [hh]
 refine wpAny_bind (wpAny_pure (wpAny_throw ?_))
 refine wpAny_bind (wpAny_isInstance (T := "StopIteration") (b := true) ⟨_, Heap.get?_push_size _ rfl, rfl⟩ isSubtype_stop ?_)
 exact wpAny_pure (hQ _ (((Heap.SameBut.update ..).extBut.push _).push _) (by simp [Heap.size_after_update]; lia))
theorem key_iter {d : Addr} {od : Obj} {es : Array DictEntry} {ep : Nat} {Q : Value → Shared → Prop} (hd : (d == sysModules) = false) (hod : s.heap.get? d = some od) (hc : od.ExactDict) (hdd : od.data = .dict es ep)
  (hQ : Q (.ref s.heap.objs.size) { s with heap := s.heap.push { cls := .type "dict_keyiterator", data := .fields #[.ref d, .int 0 0, .int es.size 0, .int ep 0] } }) :
  wpAny (model prog w) A (pyIter (.ref d)) Q E s := by
 have hT : s.TypeIs (.ref d) "dict" := ⟨od, hod, hc.1⟩
 refine wpAny_pyIter_slot hT F.slot_dict_iter (wpAny_call_entry F.slot_dict_iter hT F.entry_dict_iter ?_ (F.args_dict_iter_1 _))
 unfold Builtin.«dict.__iter__»
 refine wpAny_bind ?_
 unfold Builtin.Dict.dictSlotNone
 refine wpAny_bind (wpAny_notOrdered_dict hT ?_)
 show wpAny _ _ (pure (Value.ref d)) _ _ s
 refine wpAny_pure ?_
 show wpAny _ _ (Builtin.Dict.showsAll d >>= _) _ _ s
 unfold Builtin.Dict.showsAll
 rw [if_neg (by rw [hd]; exact Bool.false_ne_true)]
 refine wpAny_bind (wpAny_pure ?_)
 refine wpAny_bind (wpAny_dictEntries hod hdd ?_)
 refine wpAny_bind (wpAny_dictEpoch hod hdd ?_)
 refine wpAny_bind (wpAny_newObj_type (wpAny_pure ⟨_, rfl, "dict_keyiterator", _, ⟨_, Heap.get?_push_size _ rfl, rfl⟩, F.slot_dict_keyiterator_next.lookup, ?_⟩))
 simpa [rawInt] using hQ
end
end Mine
namespace Mine
open PySem PySem.W PyProof.Rows PySem.Calls PySem.Spec PySem.SeqAt
section
variable {C : Cx} {n : Nat} {A : Around} {F : Frm} {ι ι' : List Addr} {ρ ρ' : List (Nat × MV)} {σ σ₁ σ₂ σ₃ : MH} {s s' : Shared} {i j a m : Nat} {v v₁ v₂ v₃ : MV} {xs vs : List MV} {rv : Value} {x : Str} {h h' : Heap}
theorem unpack_items {prog : Program} {w : World} {E : Value → Shared → Prop} {t : Addr} {items : Array Value} {Q : List Value → Shared → Prop} (hh : A.handled = none) (ht : s.heap.IsTuple t items)
  (hQ : ∀ h', (∀ b o, s.heap.get? b = some o → h'.get? b = some o) → s.heap.objs.size ≤ h'.objs.size → Q items.toList { s with heap := h' }) : wpAny (model prog w) A (unpackItems (.ref t) items.size none) Q E s := by
 have hlt : t ≠ s.heap.objs.size := by obtain ⟨o, ho, _⟩ := ht; exact Nat.ne_of_lt (Heap.lt_size ho)
 unfold unpackItems
 refine wpAny_bind ?_
 unfold notIterableAtAll
 refine wpAny_bind (wpAny_specialOf ht.typeIs F.slot_tuple_iter.lookup ?_)
 refine wpAny_pure ?_
 simp only [Bool.false_eq_true, if_false]
 refine wpAny_bind (wpAny_holding (wpAny_pyIter_tuple ht ?_))
 refine wpAny_bind (wpAny_holding (wpAny_draw_tuple hlt items.size 0 _ _ ⟨_, Heap.get?_push_size _ rfl, rfl, rfl⟩ (ht.push _) (by lia) fun h₁ hit₁ hs₁ => ?_))
 have hall : List.take items.size (List.drop 0 items.toList) = items.toList := by
  rw [List.drop_zero]; exact List.take_of_length_le (by simp)
 rw [hall, if_neg (by simp)]
 have ht₁ : h₁.IsTuple t items := (ht.push _).extBut hs₁.extBut hlt
 refine wpAny_bind (wpAny_holding (tuple_end hh hit₁ ht₁ (by simp) fun h₂ he₂ hz₂ => ?_))
 simp only [Option.isSome_none, Bool.false_eq_true, if_false]
 refine wpAny_pure (hQ h₂ (fun b o e => ?_) ?_)
 ·exact he₂ b o (Nat.ne_of_lt (Heap.lt_size e)) (hs₁.extBut b o (Nat.ne_of_lt (Heap.lt_size e)) (Heap.get?_push_of_some _ e))
 ·have h3 : h₁.objs.size = _ := hs₁.1
  have h5 : h₁.objs.size ≤ h₂.objs.size := hz₂
  rw [h3] at h5; simp at h5; lia
noncomputable def MV.onTup {α : Type} (d : α) (f : List MV → α) (v : MV) : α := MV.casesOn v d (fun _ => d) (fun _ => d) (fun _ => d) (fun _ => d) f (fun _ => d) (fun _ _ => d) fun _ => d
noncomputable def bindT : Tg → MV → List (Nat × MV) → Option (List (Nat × MV))
 | .v i, v, ρ => some (aset ρ i v)
 | .t is, v, ρ => v.onTup none fun vs => if vs.length = is.length then some (asets ρ is vs) else none
theorem chkNs_each {ns : Names} {env : Env} : ∀ {is : List Nat} {es : List Expr}, chkNs ns is es = true → es.length = is.length ∧ assignEach es env = es.map fun e => (false, assign e env)
 | [], es, h => by rw [nil_inv h]; exact ⟨rfl, rfl⟩
 | i :: is, es, h => by
  replace h := onCons_inv h; obtain ⟨e, es, rfl, h⟩ := h
  have q := chkNs_each (env := env) (and2 h).2
  obtain ⟨id, p, rfl, _, _⟩ := chkN_inv (and2 h).1
  exact ⟨congrArg Nat.succ q.1, congrArg (List.cons (false, assign (.Name id p) env)) q.2⟩
theorem chkNs_get {ns : Names} : ∀ {is : List Nat} {es : List Expr} {k i : Nat} {e : Expr}, chkNs ns is es = true → is[k]? = some i → es[k]? = some e → chkN ns i e = true
 | [], _, _, _, _, _, h, _ => nomatch h
 | i :: is, es, k, _, _, h, h1, h2 => by
  replace h := onCons_inv h; obtain ⟨e, es, rfl, h⟩ := h
  cases k with
  | zero => cases h1; cases h2; exact (and2 h).1
  | succ k => exact chkNs_get (and2 h).2 h1 h2
noncomputable def nameOf (e : Expr) : Str := if h : e.ctorIdx = 23 then PySem.Expr.Name.elim (motive_1 := fun _ => Str) e h (fun id _ => id) else Str.ofString ""
noncomputable def TOk (F : Frm) (t : Tg) : Prop := F.own = true ∨ chkTL F.env.scope.names t = true
theorem kind_of {i : Nat} {e : Expr} (h : chkN F.env.scope.names i e = true) (hl : F.own = true ∨ isLocal F.env.scope.names i = true) : ∃ id p, e = .Name id p ∧ tab[i]? = some id ∧ (F.env.kindOf id = some .local ∨ (F.own = true ∧ F.env.kindOf id = some .cell)) := by
 obtain ⟨id, p, rfl, h1, h2⟩ := chkN_inv h
 refine ⟨id, p, rfl, h1, ?_⟩
 rcases hl with hl | hl
 ·exact (isOwn_kind h2).imp_right fun q => ⟨hl, q⟩
 ·left
  unfold isLocal at hl
  rw [h1] at hl
  exact LawfulBEq.eq_of_beq hl
theorem assign_R {t : Tg} {te : Expr} (hc : chkT F.env.scope.names t te = true) (hl : TOk F t) (ok : FrmOk C F) (r : Room A n) (hA : At C F ι σ ρ s.heap) (hV : VR ι s.heap v rv) (hb : bindT t v ρ = some ρ') :
  wpAny (model C.prog C.w) A (assign te F.env rv) (fun _ s' => At C F ι σ ρ' s'.heap ∧ Stp F.D ι s ι s') (fun _ _ => False) s := by
 cases t with
 | v i =>
  obtain ⟨id, p, rfl, h1, h2⟩ := kind_of hc hl
  cases (Option.some.inj hb : _ = _)
  exact wpAny_assign_Name (store_R h1 h2 ok hA hV)
 | t is =>
  cases v with
  | tup us =>
   replace hb : (if us.length = is.length then some (asets ρ is us) else none) = some ρ' := hb
   split at hb
   ·rename_i hlen
    cases hb
    replace hc := onTuple_inv hc; obtain ⟨es, x1, pos, rfl, hc⟩ := hc
    obtain ⟨tp, items, k, rfl, ho, hvs⟩ := hV
    obtain ⟨hl1, he1⟩ := chkNs_each (env := F.env) hc
    have hsz : items.size = is.length := by rw [← hlen, ← hvs.length]; rfl
    rw [arm_assign_Tuple]
    refine wpAny_bind (wpAny_standAt ?_)
    unfold unpack
    rw [he1]
    have hst : (es.map fun e => ((false, assign e F.env) : Bool × (Value → Sem Unit))).findIdx? (·.1) = none := by
     rw [List.findIdx?_eq_none_iff]; intro p hp; obtain ⟨e, _, rfl⟩ := List.mem_map.mp hp; rfl
    rw [hst]
    have hln : (es.map fun e => ((false, assign e F.env) : Bool × (Value → Sem Unit))).length = items.size := by rw [List.length_map, hl1, hsz]
    rw [hln]
    refine wpAny_bind (wpAny_holding (unpack_items r.1 ⟨_, ho, rfl, k, rfl⟩ fun h' hk' hz' => ?_))
    have S : Stp [] ι s ι { s with heap := h' } := ⟨.same hk' hz', rfl, rfl⟩
    have A₁ : At C F ι σ ρ h' := hA.step ok (hA.rel.same hk' hz') S.heap
    rw [List.map_map]
    refine wpAny_mono (order_R (is := is) (vs := us) (names := es.map nameOf) _ ((List.length_map _).trans hl1) ((List.length_map _).trans hl1) (fun k i x a b => ?_) (fun k f x a b u Q s' hw => ?_) ok hlen A₁ (hvs.step hA.rel .nil S.heap)) (fun _ s₂ p => ⟨p.1, S.any.trans p.2⟩) fun _ _ z => z
    ·rw [List.getElem?_map] at b
     obtain ⟨e, h1, rfl⟩ := Option.map_eq_some_iff.mp b
     obtain ⟨id, p, rfl, g1, g2⟩ := kind_of (chkNs_get hc a h1) (hl.imp_right fun q => List.all_eq_true.mp q i (List.mem_of_getElem? a))
     exact ⟨g1, g2⟩
    ·rw [List.getElem?_map] at a b
     obtain ⟨e, h1, rfl⟩ := Option.map_eq_some_iff.mp b
     rw [h1] at a
     cases (Option.some.inj a : _ = _)
     obtain ⟨hlt, _⟩ := List.getElem?_eq_some_iff.mp h1
     obtain ⟨id, p, rfl, g1, g2⟩ := chkN_inv (chkNs_get hc (List.getElem?_eq_getElem (hl1 ▸ hlt)) h1)
     exact wpAny_assign_Name hw
   ·cases hb
  | _ => cases (hb : none = some _)
structure Touch (its : List Addr) (s s' : Shared) : Prop where
 keep : ∀ b o, b ∉ its → s.heap.get? b = some o → s'.heap.get? b = some o
 size : s.heap.objs.size ≤ s'.heap.objs.size
 gens : s'.gens = s.gens
 os : s'.os = s.os
theorem Touch.step {its : List Addr} (T : Touch its s s') : Step its ι s.heap ι s'.heap := ⟨⟨[], by simp, by simp⟩, fun b o _ hb e => T.keep b o hb e, T.size⟩
noncomputable def IOk (C : Cx) (its : List Addr) (ι : List Addr) (h : Heap) : Prop := ∀ b ∈ its, b ∉ ι ∧ (∃ o vs, h.get? b = some o ∧ o.data = .fields vs) ∧ C.h₀.objs.size ≤ b
theorem IOk.dok {its : List Addr} (x : IOk C its ι h) : DOk its ι h := fun b hb => let ⟨h1, ⟨o, vs, h2, h3⟩, _⟩ := x b hb; ⟨h1, o, h2, .inr (.inr ⟨vs, h3⟩)⟩
theorem IOk.cell {its : List Addr} {o : Obj} {c : Addr} {vo : Option Value} (x : IOk C its ι h) (h1 : h.get? c = some o) (h2 : o.data = .cell vo) : c ∉ its := fun hc => by
 obtain ⟨_, ⟨o', vs, g1, g2⟩, _⟩ := x c hc
 rw [h1] at g1; cases g1; rw [h2] at g2; cases g2
theorem IOk.ns {its : List Addr} {l : Addr} {mm : Str → Option Value} (x : IOk C its ι h) (h1 : h.Ns l mm) : l ∉ its := fun hc => by
 obtain ⟨_, ⟨o', vs, g1, g2⟩, _⟩ := x l hc
 obtain ⟨o, es, ep, e1, e2, _⟩ := h1
 rw [e1] at g1; cases g1; rw [e2] at g2; cases g2
theorem At.touchG {its : List Addr} (hA : At C F ι σ ρ s.heap) (hI : DOk its ι s.heap) (hc : ∀ c ∈ its, ∀ o vo, s.heap.get? c = some o → o.data ≠ .cell vo) (hb : ∀ b ∈ its, C.h₀.objs.size ≤ b) (T : Touch its s s') (ok : FrmOk C F) (hd : ∀ b ∈ its, b ∉ F.D) : At C F ι σ ρ s'.heap := by
 obtain ⟨mm, hm, hr⟩ := hA.vars
 have hV : ∀ {u : MV} {ru : Value}, VR ι s.heap u ru → VR ι s'.heap u ru := fun z => z.step hA.rel hI T.step
 have cellCase : ∀ j y, (∃ c o vo, F.env.cells.lookup y = some c ∧ s.heap.get? c = some o ∧ o.data = .cell vo ∧ ∀ v, alook ρ j = some v → ∃ rv, vo = some rv ∧ VR ι s.heap v rv) →
   ∃ c o vo, F.env.cells.lookup y = some c ∧ s'.heap.get? c = some o ∧ o.data = .cell vo ∧ ∀ v, alook ρ j = some v → ∃ rv, vo = some rv ∧ VR ι s'.heap v rv := by
  rintro j y ⟨c, o, vo, h1, h2, h4, h5⟩
  exact ⟨c, o, vo, h1, T.keep _ _ (fun q => hc c q o vo h2 h4) h2, h4, fun v hv => let ⟨rv, a, b⟩ := h5 v hv; ⟨rv, a, hV b⟩⟩
 refine ⟨hA.rel.dirty hI T.keep T.size hb, ⟨mm, hm.at' fun o e => T.keep _ _ (fun q => hd _ q ok.locals) e, fun j y hy => ?_⟩, fun b hb => ⟨(hA.dok b hb).1, ?_⟩⟩
 ·have := hr j y hy
  revert this
  cases F.env.kindOf y with
  | none => exact id
  | some k =>
   cases k with
   | «local» => intro this v hv; obtain ⟨rv, h1, h2⟩ := this v hv; exact ⟨rv, h1, hV h2⟩
   | cell => exact cellCase j y
   | free => exact cellCase j y
   | globalExplicit => exact id
   | globalImplicit => exact id
 ·obtain ⟨o, h1, h2⟩ := (hA.dok b hb).2
  exact ⟨o, T.keep _ _ (fun q => hd b q hb) h1, h2⟩
theorem At.touch {its : List Addr} (hA : At C F ι σ ρ s.heap) (hI : IOk C its ι s.heap) (T : Touch its s s') (ok : FrmOk C F) (hd : ∀ b ∈ its, b ∉ F.D) : At C F ι σ ρ s'.heap :=
 hA.touchG hI.dok (fun _ hc _ _ h1 h2 => hI.cell h1 h2 hc) (fun b hb => (hI b hb).2.2) T ok hd
end
end Mine
namespace Mine
open PySem PySem.W PyProof.Rows PySem.Calls PySem.Spec PySem.SeqAt
section
variable {C : Cx} {n : Nat} {A : Around} {F : Frm} {ι ι' : List Addr} {ρ ρ' ρ₁ ρ₂ : List (Nat × MV)} {σ σ' σ₁ σ₂ σ₃ : MH} {s s' : Shared} {i j a m : Nat} {v v₁ v₂ v₃ : MV} {xs vs : List MV} {rv : Value} {x : Str} {h h' : Heap} {fl fl' : Fl}
structure Walk (C : Cx) (n : Nat) (xs : List MV) (dep : MH → Prop) (it : Addr) (its : List Addr) (P : Nat → List Addr → Heap → Prop) : Prop where
 stable : ∀ k ι h D ι' h', P k ι h → (∀ b ∈ its, b ∉ D) → Step D ι h ι' h' → (∀ b o, Imm o → h.get? b = some o → h'.get? b = some o) → P k ι' h'
 iok : ∀ k ι h, P k ι h → IOk C its ι h
 next : ∀ (A : Around) (k : Nat) (ι : List Addr) (s : Shared) (σ : MH) (x : MV) (Q : Option Value → Shared → Prop), Room A n → dep σ → Rel C ι σ s.heap → P k ι s.heap → xs[k]? = some x →
  (∀ rv s', Touch its s s' → VR ι s'.heap x rv → P (k + 1) ι s'.heap → Q (some rv) s') → wpAny (model C.prog C.w) A (pyNext (.ref it)) Q (fun _ _ => False) s
 stop : ∀ (A : Around) (k : Nat) (ι : List Addr) (s : Shared) (σ : MH) (Q : Option Value → Shared → Prop), Room A n → dep σ → Rel C ι σ s.heap → P k ι s.heap → xs.length ≤ k →
  (∀ s', Touch its s s' → Q none s') → wpAny (model C.prog C.w) A (pyNext (.ref it)) Q (fun _ _ => False) s
 go : ∀ (A : Around) (k : Nat) (ι : List Addr) (s : Shared) (σ : MH) (target : Expr) (v : Value) (Q : Unit → Shared → Prop), Rel C ι σ s.heap → P k ι s.heap →
  (∀ s', Touch its s s' → P k ι s'.heap → Q () s') → wpAny (model C.prog C.w) A (letOwnedTupleGo target (.ref it) v) Q (fun _ _ => False) s
 self : ∀ (A : Around) (k : Nat) (ι : List Addr) (s : Shared) (Q : Value → Shared → Prop), P k ι s.heap → Q (.ref it) s → wpAny (model C.prog C.w) A (pyIter (.ref it)) Q (fun _ _ => False) s
inductive PostI (C : Cx) (n : Nat) (ι : List Addr) (s : Shared) (xs : List MV) (dep : MH → Prop) (σ' : MH) (it : Value) (s' : Shared) : Prop where
 | mk (ι' : List Addr) (ita : Addr) (its : List Addr) (P : Nat → List Addr → Heap → Prop) (e : it = .ref ita) (R : Rel C ι' σ' s'.heap) (S : Stp [] ι s ι' s') (W : Walk C n xs dep ita its P) (p : P 0 ι' s'.heap) (b : ∀ b ∈ its, s.heap.objs.size ≤ b)
noncomputable def ItOp (C : Cx) (n : Nat) (v : MV) (σ : MH) (xs : List MV) (dep : MH → Prop) : Prop :=
 ∀ (A : Around) (ι : List Addr) (s : Shared) (rv : Value), Room A n → Rel C ι σ s.heap → VR ι s.heap v rv → wpAny (model C.prog C.w) A (pyIter rv) (PostI C n ι s xs dep σ) (fun _ _ => False) s
noncomputable def ItEv (C : Cx) (n : Nat) (ie : IE) (ρ : List (Nat × MV)) (σ : MH) (xs : List MV) (dep : MH → Prop) (σ' : MH) : Prop :=
 ∀ (F : Frm) (e : Expr) (A : Around) (ι : List Addr) (s : Shared), chk F.env.scope.names ie e = true → FrmOk C F → Room A n → At C F ι σ ρ s.heap →
  wpAny (model C.prog C.w) A (eval e F.env) (fun rv s₁ => wpAny (model C.prog C.w) A (pyIter rv) (PostI C n ι s xs dep σ') (fun _ _ => False) s₁) (fun _ _ => False) s
theorem ItEv.of {e : IE} {dep : MH → Prop} (h : Ev C n e ρ σ v σ') (hi : ItOp C n v σ' xs dep) : ItEv C n e ρ σ xs dep σ' := by
 intro F x A ι s hc ok r hA
 refine wpAny_mono (h F x A ι s hc ok r hA) (fun rv s₁ p => ?_) fun _ _ z => z
 obtain ⟨ι₁, R₁, V₁, S₁⟩ := p
 refine wpAny_mono (hi A ι₁ s₁ rv r R₁ V₁) (fun it s₂ p => ?_) fun _ _ z => z
 obtain ⟨ι₂, ita, its, P, h1, h2, h3, h4, h5, h6⟩ := p
 exact ⟨ι₂, ita, its, P, h1, h2, S₁.trans h3, h4, h5, fun b hb => Nat.le_trans S₁.heap.size (h6 b hb)⟩
inductive Loop (C : Cx) (n : Nat) (t : Tg) (b : List IS) (dep : MH → Prop) : List MV → List (Nat × MV) → MH → Fl → List (Nat × MV) → MH → Prop where
 | nil {ρ : List (Nat × MV)} {σ : MH} : dep σ → Loop C n t b dep [] ρ σ .next ρ σ
 | next {x : MV} {xs : List MV} {ρ ρ₁ ρ₂ ρ₃ : List (Nat × MV)} {σ σ₂ σ₃ : MH} {fl fl' : Fl} : dep σ → bindT t x ρ = some ρ₁ → Xs C n b ρ₁ σ fl ρ₂ σ₂ → (fl = .next ∨ fl = .cont) → Loop C n t b dep xs ρ₂ σ₂ fl' ρ₃ σ₃ → Loop C n t b dep (x :: xs) ρ σ fl' ρ₃ σ₃
 | ret {x : MV} {xs : List MV} {ρ ρ₁ ρ₂ : List (Nat × MV)} {σ σ₂ : MH} {v : MV} : dep σ → bindT t x ρ = some ρ₁ → Xs C n b ρ₁ σ (.ret v) ρ₂ σ₂ → Loop C n t b dep (x :: xs) ρ σ (.ret v) ρ₂ σ₂
theorem noted_false {α : Type} {m : Sem α} {Q : α → Shared → Prop} {E : Value → Shared → Prop} (h : wpAny (model C.prog C.w) A m Q (fun _ _ => False) s) : wpAny (model C.prog C.w) A m Q E s :=
 wpAny_mono h (fun _ _ z => z) fun _ _ z => z.elim
inductive LInv (C : Cx) (n : Nat) (F : Frm) (ι : List Addr) (s : Shared) (xs : List MV) (t : Tg) (b : List IS) (dep : MH → Prop) (its : List Addr) (P : Nat → List Addr → Heap → Prop) (fl : Fl) (ρ' : List (Nat × MV)) (σ' : MH) (m : Nat) (s' : Shared) : Prop where
 | mk (k : Nat) (ι' : List Addr) (ρk : List (Nat × MV)) (σk : MH) (hm : m = xs.length - k) (Pk : P k ι' s'.heap) (Ak : At C F ι' σk ρk s'.heap) (Sk : Stp (its ++ F.D) ι s ι' s') (hk : k ≤ xs.length) (Lk : Loop C n t b dep (xs.drop k) ρk σk fl ρ' σ')
theorem Stp.inl {ι₀ its : List Addr} {s₀ : Shared} (S : Stp F.D ι₀ s₀ ι' s') : Stp (its ++ F.D) ι₀ s₀ ι' s' := S.weak fun _ ha => List.mem_append_right _ ha
theorem Touch.stp {ι₀ its : List Addr} {s₀ : Shared} (T : Touch its s₀ s') : Stp (its ++ F.D) ι₀ s₀ ι₀ s' := Stp.weak ⟨T.step, T.gens, T.os⟩ fun _ ha => List.mem_append_left _ ha
theorem At.off {its : List Addr} (hA : At C F ι σ ρ s.heap) (hits : ∀ b ∈ its, s.heap.objs.size ≤ b) : ∀ b ∈ its, b ∉ F.D := fun b hb q => by
 obtain ⟨_, o, h1, _⟩ := hA.dok b q
 exact absurd (Heap.lt_size h1) (Nat.not_lt.mpr (hits b hb))
theorem Stp.offs {ι₀ its : List Addr} {s₀ : Shared} (S : Stp (its ++ F.D) ι₀ s₀ ι' s') (hits : ∀ b ∈ its, s₀.heap.objs.size ≤ b) : Stp F.D ι₀ s₀ ι' s' := S.clean fun a ha => (List.mem_append.mp ha).elim (fun q => .inr (hits a q)) .inl
theorem drop_cons {α : Type} {l : List α} {d : Nat} {g : α} {gs : List α} (h : l.drop d = g :: gs) : N3 (l[d]? = some g) (l.drop (d + 1) = gs) (d < l.length) := by
 have e : l[d]? = some g := by rw [← List.head?_drop, h]; rfl
 exact ⟨e, by rw [← List.tail_drop, h]; rfl, (List.getElem?_eq_some_iff.mp e).1⟩
theorem folded_no {e : Expr} {env : Env} {x : Value} (h : notSet e = true) : foldedSetIterable e env x = pure x := by
 cases e <;> first | rfl | exact ff h
theorem loop_R {R : Result → Shared → Prop} {t : Tg} {b : List IS} {dep : MH → Prop} {te : Expr} {bs : List Stmt} {ita : Addr} {its : List Addr} {P : Nat → List Addr → Heap → Prop} (c1 : chkT F.env.scope.names t te = true) (c4 : chkSs F.env.scope.names b bs = true)
  (ok : FrmOk C F) (own : F.own = true) (r : Room A n) (W : Walk C n xs dep ita its P) (hDs : ∀ b ∈ its, b ∉ F.D)
  (hR : ∀ f s' ι', At C F ι' σ' ρ' s'.heap → FlR ι' s'.heap fl f → Stp (its ++ F.D) ι s ι' s' → R (.ok f) s') : ∀ (m : Nat) (s' : Shared), LInv C n F ι s xs t b dep its P fl ρ' σ' m s' → codeAny (model C.prog C.w) A (.forLoop te (.ref ita) bs [] F.env) R s' := by
 intro m₀ s₀ h₀
 refine codeAny_forLoop_any (LInv C n F ι s xs t b dep its P fl ρ' σ') (fun m s' hI => ?_) m₀ h₀
 obtain ⟨k, ι', ρk, σk, rfl, Pk, Ak, Sk, hk, Lk⟩ := hI
 have turn : ∀ y ys ρ₁ fl₁ ρ₂ σ₂ (Q : Flow → Shared → Prop), xs.drop k = y :: ys → dep σk → bindT t y ρk = some ρ₁ → Xs C n b ρ₁ σk fl₁ ρ₂ σ₂ →
   (∀ f s₃ ι₃, At C F ι₃ σ₂ ρ₂ s₃.heap → FlR ι₃ s₃.heap fl₁ f → Stp (its ++ F.D) ι s ι₃ s₃ → P (k + 1) ι₃ s₃.heap → Q f s₃) → ∀ E,
   wpAny (model C.prog C.w) A (pyNext (.ref ita)) (fun r s₁ => match r with
    | none => False
    | some v => wpAny (model C.prog C.w) A (letOwnedTupleGo te (.ref ita) v) (fun _ s₁' => wpAny (model C.prog C.w) A (assign te F.env v) (fun _ s₂ => wpAny (model C.prog C.w) A (execs bs F.env) Q E s₂) E s₁') E s₁) E s' := by
  intro y ys ρ₁ fl₁ ρ₂ σ₂ Q hd hdep hb hX hQ E
  refine noted_false (W.next A k ι' s' σk y _ r hdep Ak.rel Pk (drop_cons hd).1 fun rv s₁ T₁ V₁ P₁ => ?_)
  have A₁ := Ak.touch (W.iok _ _ _ Pk) T₁ ok hDs
  refine noted_false (W.go A (k + 1) ι' s₁ σk te rv _ A₁.rel P₁ fun s₁' T₁' P₁' => ?_)
  have A₁' := A₁.touch (W.iok _ _ _ P₁) T₁' ok hDs
  have V₁' := V₁.step A₁.rel (W.iok _ _ _ P₁).dok T₁'.step
  refine noted_false (wpAny_mono (assign_R c1 (.inl own) ok r A₁' V₁' hb) (fun _ s₂ p => ?_) fun _ _ z => z)
  obtain ⟨A₂, S₂'⟩ := p
  have P₂' := W.stable _ _ _ _ _ _ P₁' hDs S₂'.heap (S₂'.heap.imm A₁'.rel A₁'.dok)
  refine noted_false (wpAny_mono (hX F bs A ι' s₂ c4 ok own r A₂) (fun f s₃ p => ?_) fun _ _ z => z)
  obtain ⟨ι₃, A₃, L₃, S₃⟩ := p
  exact hQ f s₃ ι₃ A₃ L₃ (Sk.trans (T₁.stp.trans (T₁'.stp.trans (S₂'.inl.trans S₃.inl)))) (W.stable _ _ _ _ _ _ P₂' hDs S₃.heap (S₃.heap.imm A₂.rel A₂.dok))
 generalize hys : xs.drop k = ys at Lk
 cases Lk with
 | nil hdep =>
  refine noted_false (W.stop A k ι' s' _ _ r hdep Ak.rel Pk (List.drop_eq_nil_iff.mp hys) fun s₁ T₁ => ?_)
  have A₁ := Ak.touch (W.iok _ _ _ Pk) T₁ ok hDs
  exact wpAny_execs_nil (hR _ _ ι' A₁ rfl (Sk.trans T₁.stp))
 | next hdep hb hX hfl hL =>
  refine wpAny_mono (turn _ _ _ _ _ _ (fun f s₃ => (f = .next ∨ f = .cont) ∧ ∃ m, m < xs.length - k ∧ LInv C n F ι s xs t b dep its P fl ρ' σ' m s₃) hys hdep hb hX (fun f s₃ ι₃ A₃ L₃ S₃ P₃ => ?_) _) (fun r s₁ p => ?_) fun _ _ z => z
  ·have hlt := (drop_cons hys).3
   exact ⟨by rcases hfl with rfl | rfl; exact .inl L₃; exact .inr L₃, xs.length - (k + 1), Nat.sub_succ_lt_self _ _ hlt, k + 1, ι₃, _, _, rfl, P₃, A₃, S₃, hlt, by rw [(drop_cons hys).2]; exact hL⟩
  ·cases r with
   | none => exact p.elim
   | some v => exact wpAny_mono p (fun _ s₁' p => wpAny_mono p (fun _ s₂ p => wpAny_mono p (fun f s₃ p => by obtain ⟨h1 | h1, h2⟩ := p <;> subst h1 <;> exact h2) fun _ _ z => z) fun _ _ z => z) fun _ _ z => z
 | ret hdep hb hX =>
  refine wpAny_mono (turn _ _ _ _ _ _ (fun f s₃ => ∃ ru, f = .ret ru ∧ R (.ok (.ret ru)) s₃) hys hdep hb hX (fun f s₃ ι₃ A₃ L₃ S₃ P₃ => ?_) _) (fun r s₁ p => ?_) fun _ _ z => z
  ·obtain ⟨ru, rfl, hru⟩ := L₃
   exact ⟨ru, rfl, hR _ _ ι₃ A₃ ⟨ru, rfl, hru⟩ S₃⟩
  ·cases r with
   | none => exact p.elim
   | some v => exact wpAny_mono p (fun _ s₁' p => wpAny_mono p (fun _ s₂ p => wpAny_mono p (fun f s₃ p => by obtain ⟨ru, h1, h2⟩ := p; subst h1; exact h2) fun _ _ z => z) fun _ _ z => z) fun _ _ z => z
theorem X1.for {t : Tg} {e : IE} {b : List IS} {dep : MH → Prop} (hi : ItEv C n e ρ σ xs dep σ₁) (hl : Loop C n t b dep xs ρ σ₁ fl ρ' σ') : X1 C n (.for t e b) ρ σ fl ρ' σ' := by
 intro F st A ι s hc ok own r hA
 replace hc := onSFor_inv hc; obtain ⟨te, ie, bs, orelse, pos, rfl, hc⟩ := hc
 obtain ⟨c0, c1, c2, c3, c4⟩ := and5 hc
 have := nil_inv c0; subst this
 refine wpAny_For (wpAny_mono (hi F ie A ι s c2 ok r hA) (fun rv s₁ p => ?_) fun _ _ z => z.elim) (fun x => folded_no c3)
 refine wpAny_mono p (fun it s₂ p => ?_) fun _ _ z => z.elim
 obtain ⟨ι₂, ita, its, P, rfl, R₂, S₂, W, P₂, hits⟩ := p
 exact loop_R (s := s) (ι := ι) c1 c4 ok own r W (hA.off hits) (fun f s' ι' A' L' S' => ⟨ι', A', L', S'.offs hits⟩) _ s₂ ⟨0, ι₂, ρ, σ₁, rfl, P₂, hA.step ok R₂ S₂.heap, S₂.any, Nat.zero_le _, hl⟩
end
end Mine
namespace Mine
open PySem PySem.W PyProof.Rows PySem.Calls PySem.Spec PySem.SeqAt
theorem go_plain {prog : Program} {w : World} {A : Around} {E : Value → Shared → Prop} {s : Shared} {it : Addr} {o : Obj} {T : String} {target : Expr} {v : Value} {Q : Unit → Shared → Prop} (ho : s.heap.get? it = some o) (hc : o.cls = .type T)
  (hT : ["enumerate", "zip", "dict_itemiterator", "dict_reverseitemiterator", "odict_iterator", "itertools.zip_longest", "itertools.pairwise"].contains T = false) (h : Q () s) : wpAny (model prog w) A (letOwnedTupleGo target (.ref it) v) Q E s := by
 have core : wpAny (model prog w) A (do
   let (.ref r, .ref a) := (Value.ref it, v) | return
   let o ← load r
   match o.cls, o.data with
   | .type n, .fields vs =>
    if ["enumerate", "zip", "dict_itemiterator", "dict_reverseitemiterator", "odict_iterator", "itertools.zip_longest", "itertools.pairwise"].contains n && vs[0]? == some (rawInt a) then
     rule "for.unpacks-the-owned-tuple"
     updateField r 0 .none
   | _, _ => pure ()) Q E s := by
  cases v with
  | ref a =>
   refine wpAny_bind (wpAny_load ho ?_)
   rw [hc]
   cases o.data with
   | fields vs =>
    simp only [hT, Bool.false_and, Bool.false_eq_true, if_false]
    exact wpAny_pure h
   | _ => exact wpAny_pure h
  | _ => exact wpAny_pure h
 cases target <;> first | exact core | exact wpAny_pure h
section
variable {C : Cx} {n : Nat} {A : Around} {F : Frm} {ι ι' : List Addr} {ρ ρ' ρ₁ ρ₂ : List (Nat × MV)} {σ σ' σ₁ σ₂ σ₃ : MH} {s s' : Shared} {i j a m ep : Nat} {v v₁ v₂ v₃ : MV} {xs vs : List MV} {es : List (MV × MV)} {rv : Value} {x : Str} {h h' : Heap} {fl fl' : Fl}
theorem touch_same {it : Addr} {tk : Nat} (hs : Heap.SameBut it s.heap h') : Touch [it] s { s with heap := h', toks := tk } :=
 ⟨fun b o hb e => (hs.2 b (by simpa using hb)).trans e, Nat.le_of_eq hs.1.symm, rfl, rfl⟩
theorem touch_ext {it : Addr} (hs : Heap.ExtBut it s.heap h') (hz : s.heap.objs.size ≤ h'.objs.size) : Touch [it] s { s with heap := h' } :=
 ⟨fun b o hb e => hs b o (by simpa using hb) e, hz, rfl, rfl⟩
theorem stp_push (o : Obj) : Stp [] ι s ι { s with heap := s.heap.push o } := ⟨.same (fun _ _ e => Heap.get?_push_of_some _ e) (by simp), rfl, rfl⟩
theorem Rel.push (R : Rel C ι σ s.heap) (o : Obj) : Rel C ι σ (s.heap.push o) := R.same (fun _ _ e => Heap.get?_push_of_some _ e) (by simp)
theorem ItOp.list (hi : σ[i]? = some (.list xs)) : ItOp C n (.loc i) σ xs (fun σ' => σ'[i]? = some (.list xs)) := by
 intro A ι s rv r R V
 obtain ⟨l, items, k, rfl, hl, ho, hv, _, _⟩ := R.isL V hi
 refine wpAny_pyIter_list ⟨_, ho, rfl, k, rfl⟩ ?_
 refine ⟨ι, s.heap.objs.size, [s.heap.objs.size], fun k ι' h => ι'[i]? = some l ∧ h.IsListIter s.heap.objs.size l k ∧ s.heap.objs.size ∉ ι', rfl, R.push _, stp_push _, ?_, ⟨hl, ⟨_, Heap.get?_push_size _ rfl, rfl, rfl⟩, fun q => absurd (R.lt q) (Nat.lt_irrefl _)⟩, by simp⟩
 constructor
 ·rintro k ι₁ h D ι₂ h' ⟨h1, ⟨o, h2, h3⟩, h4⟩ hD S hi
  exact ⟨S.get? h1, ⟨o, S.keep _ _ h4 (hD _ (by simp)) h2, h3⟩, S.notMem h4 (Heap.lt_size h2)⟩
 ·rintro k ι₁ h ⟨h1, ⟨o, h2, h3, h5⟩, h4⟩ b hb
  rw [List.mem_singleton.mp hb]
  exact ⟨h4, ⟨o, _, h2, h5⟩, R.size⟩
 ·intro A k ι₁ s₁ σ₁ x Q r hdep R₁ hP hx hQ
  obtain ⟨h1, h2, h4⟩ := hP
  obtain ⟨l', items', k', e1, e2, e3, e4, _, e5⟩ := R₁.isL (rv := .ref l) ⟨l, rfl, h1⟩ hdep
  cases e1
  obtain ⟨rx, hrx, hvx⟩ := e4.get hx
  refine wpAny_pyNext_list_item h2 ⟨_, e3, rfl, k', rfl⟩ (by simpa using hrx) fun h' hit hs => ?_
  have hli : s.heap.objs.size ≠ l := fun q => h4 (q ▸ List.mem_of_getElem? h1)
  have T : Touch [s.heap.objs.size] s₁ { s₁ with heap := h' } := touch_same hs
  refine hQ rx _ T (hvx.map (fun _ _ e => e) fun b o hi e => T.keep b o (fun q => ?_) e) ⟨h1, hit, h4⟩
  rw [List.mem_singleton.mp q] at e
  obtain ⟨o', g1, _, g2⟩ := h2
  rw [e] at g1; cases g1
  rcases hi with ⟨_, _, rfl⟩ | ⟨_, _, rfl⟩ <;> simp at g2
 ·intro A k ι₁ s₁ σ₁ Q r hdep R₁ hP hx hQ
  obtain ⟨h1, h2, h4⟩ := hP
  obtain ⟨l', items', k', e1, e2, e3, e4, _, e5⟩ := R₁.isL (rv := .ref l) ⟨l, rfl, h1⟩ hdep
  cases e1
  exact list_end r.1 h2 ⟨_, e3, rfl, k', rfl⟩ (by rw [Array.getElem?_eq_none]; lia) fun h' hs hz => hQ _ (touch_ext hs hz)
 ·intro A k ι₁ s₁ σ₁ target v Q R₁ hP hQ
  obtain ⟨h1, ⟨o, h2, h3, h5⟩, h4⟩ := id hP
  exact go_plain h2 h3 (by decide) (hQ s₁ ⟨fun _ _ _ e => e, Nat.le_refl _, rfl, rfl⟩ hP)
 ·intro A k ι₁ s₁ Q hP hQ
  obtain ⟨h1, h2, h4⟩ := hP
  exact wpAny_pyIter_listiter h2 hQ
theorem ItOp.tup : ItOp C n (.tup xs) σ xs (fun _ => True) := by
 intro A ι s rv r R V
 obtain ⟨t, items, k, rfl, ho, hv⟩ := V
 refine wpAny_pyIter_tuple ⟨_, ho, rfl, k, rfl⟩ ?_
 refine ⟨ι, s.heap.objs.size, [s.heap.objs.size], fun k' ι' h => h.get? t = some ({ cls := .type "tuple", data := .seq items k } : Obj) ∧ VRs ι' h xs items.toList ∧ h.IsTupleIter s.heap.objs.size t k' ∧ s.heap.objs.size ∉ ι', rfl, R.push _, stp_push _, ?_, ⟨Heap.get?_push_of_some _ ho, hv.step R .nil (stp_push _).heap, ⟨_, Heap.get?_push_size _ rfl, rfl, rfl⟩, fun q => absurd (R.lt q) (Nat.lt_irrefl _)⟩, by simp⟩
 have hti : t ≠ s.heap.objs.size := Nat.ne_of_lt (Heap.lt_size ho)
 constructor
 ·rintro k ι₁ h D ι₂ h' ⟨h0, hv, ⟨o, h2, h3⟩, h4⟩ hD S hi
  exact ⟨hi _ _ (.inl ⟨_, _, rfl⟩) h0, hv.map (fun _ _ e => S.get? e) hi, ⟨o, S.keep _ _ h4 (hD _ (by simp)) h2, h3⟩, S.notMem h4 (Heap.lt_size h2)⟩
 ·rintro k ι₁ h ⟨_, _, ⟨o, h2, h3, h5⟩, h4⟩ b hb
  rw [List.mem_singleton.mp hb]
  exact ⟨h4, ⟨o, _, h2, h5⟩, R.size⟩
 ·intro A k ι₁ s₁ σ₁ x Q r hdep R₁ hP hx hQ
  obtain ⟨h0, hv, h2, h4⟩ := hP
  obtain ⟨rx, hrx, hvx⟩ := hv.get hx
  refine wpAny_pyNext_tuple_item h2 ⟨_, h0, rfl, _, rfl⟩ (by simpa using hrx) fun h' hit hs => ?_
  have T : Touch [s.heap.objs.size] s₁ { s₁ with heap := h' } := touch_same hs
  have him : ∀ b o, Imm o → s₁.heap.get? b = some o → h'.get? b = some o := fun b o hi e => T.keep b o (fun q => by
   rw [List.mem_singleton.mp q] at e
   obtain ⟨o', g1, _, g2⟩ := h2
   rw [e] at g1; cases g1
   rcases hi with ⟨_, _, rfl⟩ | ⟨_, _, rfl⟩ <;> simp at g2) e
  exact hQ rx _ T (hvx.map (fun _ _ e => e) him) ⟨him _ _ (.inl ⟨_, _, rfl⟩) h0, hv.map (fun _ _ e => e) him, hit, h4⟩
 ·intro A k ι₁ s₁ σ₁ Q r hdep R₁ hP hx hQ
  obtain ⟨h0, hv, h2, h4⟩ := hP
  refine tuple_end r.1 h2 ⟨_, h0, rfl, _, rfl⟩ ?_ fun h' hs hz => hQ _ (touch_ext hs hz)
  rw [Array.getElem?_eq_none]
  have := hv.length
  simp at this; lia
 ·intro A k ι₁ s₁ σ₁ target v Q R₁ hP hQ
  obtain ⟨_, _, ⟨o, h2, h3, h5⟩, h4⟩ := id hP
  exact go_plain h2 h3 (by decide) (hQ s₁ ⟨fun _ _ _ e => e, Nat.le_refl _, rfl, rfl⟩ hP)
 ·intro A k ι₁ s₁ Q hP hQ
  obtain ⟨_, _, h2, h4⟩ := hP
  exact wpAny_pyIter_tupleiter h2 hQ
theorem ItOp.keys (hi : σ[i]? = some (.dict ep es)) : ItOp C n (.loc i) σ (es.map (·.1)) (fun σ' => ∃ es', σ'[i]? = some (.dict ep es') ∧ es'.map (·.1) = es.map (·.1)) := by
 intro A ι s rv r R V
 obtain ⟨d, o, ds, rfl, hl, ho, hc, K, hd, X, _⟩ := R.dict V hi
 have hns : (d == sysModules) = false := R.noSys (List.mem_of_getElem? hl)
 have hsz : ds.size = es.length := by rw [← Array.length_toList, X.length]
 refine key_iter hns ho hc hd ?_
 refine ⟨ι, s.heap.objs.size, [s.heap.objs.size], fun k ι' h => ι'[i]? = some d ∧ h.IsKeyIter s.heap.objs.size d k es.length ep ∧ s.heap.objs.size ∉ ι', rfl, R.push _, stp_push _, ?_, ⟨hl, ⟨_, Heap.get?_push_size _ rfl, rfl, by rw [hsz]; rfl⟩, fun q => absurd (R.lt q) (Nat.lt_irrefl _)⟩, by simp⟩
 constructor
 ·rintro k ι₁ h D ι₂ h' ⟨h1, ⟨o, h2, h3⟩, h4⟩ hD S hi
  exact ⟨S.get? h1, ⟨o, S.keep _ _ h4 (hD _ (by simp)) h2, h3⟩, S.notMem h4 (Heap.lt_size h2)⟩
 ·rintro k ι₁ h ⟨h1, ⟨o, h2, h3, h5⟩, h4⟩ b hb
  rw [List.mem_singleton.mp hb]
  exact ⟨h4, ⟨o, _, h2, h5⟩, R.size⟩
 ·intro A k ι₁ s₁ σ₁ x Q r hdep R₁ hP hx hQ
  obtain ⟨h1, h2, h4⟩ := hP
  obtain ⟨es', hdep, hes⟩ := hdep
  obtain ⟨d', o', ds', e1, e2, e3, e4, e5, e6, X', _⟩ := R₁.dict (rv := .ref d) ⟨d, rfl, h1⟩ hdep
  cases e1
  have hsz' : ds'.size = es.length := by rw [← Array.length_toList, X'.length]; simpa using congrArg List.length hes
  rw [← hes] at hx
  rw [List.getElem?_map] at hx
  obtain ⟨⟨ke, ve⟩, hke, rfl⟩ := Option.map_eq_some_iff.mp hx
  obtain ⟨de, g1, g2, g3, g4⟩ := X'.get hke
  refine key_item h2 e3 e6 hsz' (by simpa using g1) fun h' hit hs => ?_
  have T : Touch [s.heap.objs.size] s₁ { s₁ with heap := h' } := touch_same hs
  refine hQ de.key _ T (g3.map (fun _ _ e => e) fun b o hi e => T.keep b o (fun q => ?_) e) ⟨h1, hit, h4⟩
  rw [List.mem_singleton.mp q] at e
  obtain ⟨o', q1, _, q2⟩ := h2
  rw [e] at q1; cases q1
  rcases hi with ⟨_, _, rfl⟩ | ⟨_, _, rfl⟩ <;> simp at q2
 ·intro A k ι₁ s₁ σ₁ Q r hdep R₁ hP hx hQ
  obtain ⟨h1, h2, h4⟩ := hP
  obtain ⟨es', hdep, hes⟩ := hdep
  obtain ⟨d', o', ds', e1, e2, e3, e4, e5, e6, X', _⟩ := R₁.dict (rv := .ref d) ⟨d, rfl, h1⟩ hdep
  cases e1
  have hsz' : ds'.size = es.length := by rw [← Array.length_toList, X'.length]; simpa using congrArg List.length hes
  exact key_end r.1 h2 e3 e6 hsz' (by simp at hx; lia) fun h' hs hz => hQ _ (touch_ext hs hz)
 ·intro A k ι₁ s₁ σ₁ target v Q R₁ hP hQ
  obtain ⟨h1, ⟨o, h2, h3, h5⟩, h4⟩ := id hP
  exact go_plain h2 h3 (by decide) (hQ s₁ ⟨fun _ _ _ e => e, Nat.le_refl _, rfl, rfl⟩ hP)
 ·intro A k ι₁ s₁ Q hP hQ
  obtain ⟨h1, h2, h4⟩ := hP
  exact wpAny_pyIter_keyiter h2 hQ
noncomputable def rangeMV (a b : Int) : List MV := (List.range (b - a).toNat).map fun (k : Nat) => MV.int (a + (k : Int))
theorem range_walk {s : Shared} {it : Addr} {a b : Int} (R : Rel C ι σ s.heap) (hit : s.heap.objs.size ≤ it) :
  Walk C n (rangeMV a b) (fun _ => True) it [it] (fun k ι' h => IsRangeIter h it (a + (k : Int)) (b - a - (k : Int)) 1 ∧ it ∉ ι') := by
 constructor
 ·rintro k ι₁ h D ι₂ h' ⟨h2, h4⟩ hD S hi
  exact ⟨S.keep _ _ h4 (hD _ (by simp)) h2, S.notMem h4 (Heap.lt_size h2)⟩
 ·rintro k ι₁ h ⟨h2, h4⟩ c hb
  rw [List.mem_singleton.mp hb]
  exact ⟨h4, ⟨_, _, h2, rfl⟩, Nat.le_trans R.size hit⟩
 ·intro A k ι₁ s₁ σ₁ x Q r hdep R₁ hP hx hQ
  obtain ⟨h2, h4⟩ := hP
  simp only [rangeMV, List.getElem?_map, Option.map_eq_some_iff] at hx
  obtain ⟨k', hk', rfl⟩ := hx
  obtain ⟨hlt, hk'⟩ := List.getElem?_eq_some_iff.mp hk'
  simp at hlt hk'
  subst hk'
  refine wpAny_pyNext_range_item h2 (by lia) fun h' hit hs => ?_
  have T : Touch [it] s₁ { s₁ with heap := h', toks := s₁.toks + 1 } := touch_same hs
  refine hQ _ _ T ⟨_, rfl⟩ ⟨?_, h4⟩
  show IsRangeIter h' it (a + ((k + 1 : Nat) : Int)) (b - a - ((k + 1 : Nat) : Int)) 1
  have e1 : a + ((k + 1 : Nat) : Int) = a + (k : Int) + 1 := by lia
  have e2 : b - a - ((k + 1 : Nat) : Int) = b - a - (k : Int) - 1 := by lia
  rw [e1, e2]; exact hit
 ·intro A k ι₁ s₁ σ₁ Q r hdep R₁ hP hx hQ
  obtain ⟨h2, h4⟩ := hP
  exact range_end r.1 h2 (by simp [rangeMV] at hx; lia) fun h' hs hz => hQ _ (touch_ext hs hz)
 ·intro A k ι₁ s₁ σ₁ target v Q R₁ hP hQ
  exact go_plain hP.1 rfl (by decide) (hQ s₁ ⟨fun _ _ _ e => e, Nat.le_refl _, rfl, rfl⟩ hP)
 ·intro A k ι₁ s₁ Q hP hQ
  exact wpAny_pyIter_rangeiter hP.1 hQ
theorem range_iter {s : Shared} {rr : Addr} {a b : Int} {t u w : Tok} (R : Rel C ι σ s.heap) (hr : IsRange s.heap rr a b 1 t u w) (hab : a ≤ b) (ha : -(2 ^ 62) ≤ a) (hb : b < 2 ^ 62) :
  wpAny (model C.prog C.w) A (pyIter (.ref rr)) (PostI C n ι s (rangeMV a b) (fun _ => True) σ) (fun _ _ => False) s := by
 refine wpAny_pyIter_range hr (small_one ha (by lia) (by lia) hb) ?_
 refine ⟨ι, s.heap.objs.size, [s.heap.objs.size], _, rfl, R.push _, stp_push _, range_walk R (Nat.le_refl _), ⟨?_, fun q => absurd (R.lt q) (Nat.lt_irrefl _)⟩, by simp⟩
 show IsRangeIter _ _ (a + ((0 : Nat) : Int)) (b - a - ((0 : Nat) : Int)) 1
 have e1 : a + ((0 : Nat) : Int) = a := by lia
 have e2 : b - a - ((0 : Nat) : Int) = Builtin.Range.rangeSize a b 1 := by rw [rangeSize_one]; split <;> lia
 rw [e1, e2]; exact Heap.get?_push_size _ rfl
theorem ItEv.range1 {g : Nat} {args : List IE} {b : Int} (hg : GOk C g (.raw (.type "range"))) (ha : EvL C n args ρ σ [.int b] σ₁) (h0 : 0 ≤ b) (hb : b < 2 ^ 62) : ItEv C n (.call (.glob g) args) ρ σ (rangeMV 0 b) (fun _ => True) σ₁ := by
 intro F e A ι s hc ok r hA
 refine call_R hg (.inl fun _ q => by cases q) ha hc ok r hA fun ι₁ s₁ rvs R₁ V₁ S₁ => ?_
 obtain ⟨rv, r1, rfl, V, rfl⟩ := V₁
 obtain ⟨tk, rfl⟩ := V
 refine call_range_1 ?_
 have S₂ : Stp [] ι₁ s₁ ι₁ { s₁ with heap := s₁.heap.push { cls := .type "range", data := .fields #[.int 0 s₁.toks, .int b tk, .int 1 (s₁.toks + 1)] }, toks := s₁.toks + 1 + 1 } := ⟨.same (fun _ _ e => Heap.get?_push_of_some _ e) (by simp), rfl, rfl⟩
 refine wpAny_mono (range_iter (n := n) (s := { s₁ with heap := s₁.heap.push { cls := .type "range", data := .fields #[.int 0 s₁.toks, .int b tk, .int 1 (s₁.toks + 1)] }, toks := s₁.toks + 1 + 1 }) (R₁.push _) (IsRange.new ..) h0 (by lia) hb) (fun it s₂ p => ?_) fun _ _ z => z
 obtain ⟨ι₂, ita, its, P, g1, g2, g3, g4, g5, g6⟩ := p
 exact ⟨ι₂, ita, its, P, g1, g2, S₁.trans (S₂.trans g3), g4, g5, fun c hb => Nat.le_trans (S₁.trans S₂).heap.size (g6 c hb)⟩
theorem ItEv.range2 {g : Nat} {args : List IE} {a b : Int} (hg : GOk C g (.raw (.type "range"))) (ha : EvL C n args ρ σ [.int a, .int b] σ₁) (hab : a ≤ b) (h0 : -(2 ^ 62) ≤ a) (hb : b < 2 ^ 62) : ItEv C n (.call (.glob g) args) ρ σ (rangeMV a b) (fun _ => True) σ₁ := by
 intro F e A ι s hc ok r hA
 refine call_R hg (.inl fun _ q => by cases q) ha hc ok r hA fun ι₁ s₁ rvs R₁ V₁ S₁ => ?_
 obtain ⟨rv, r1, rfl, V, rv2, r2, rfl, V2, rfl⟩ := V₁
 obtain ⟨tk, rfl⟩ := V
 obtain ⟨tk2, rfl⟩ := V2
 refine call_range_2 ?_
 have S₂ : Stp [] ι₁ s₁ ι₁ { s₁ with heap := s₁.heap.push { cls := .type "range", data := .fields #[.int a tk, .int b tk2, .int 1 s₁.toks] }, toks := s₁.toks + 1 } := ⟨.same (fun _ _ e => Heap.get?_push_of_some _ e) (by simp), rfl, rfl⟩
 refine wpAny_mono (range_iter (n := n) (s := { s₁ with heap := s₁.heap.push { cls := .type "range", data := .fields #[.int a tk, .int b tk2, .int 1 s₁.toks] }, toks := s₁.toks + 1 }) (R₁.push _) (IsRange.new ..) hab h0 hb) (fun it s₂ p => ?_) fun _ _ z => z
 obtain ⟨ι₂, ita, its, P, g1, g2, g3, g4, g5, g6⟩ := p
 exact ⟨ι₂, ita, its, P, g1, g2, S₁.trans (S₂.trans g3), g4, g5, fun c hb => Nat.le_trans (S₁.trans S₂).heap.size (g6 c hb)⟩
end
end Mine
namespace Mine
open PySem PySem.W PyProof.Rows PySem.Calls PySem.Spec PySem.SeqAt
section
variable {C : Cx} {n : Nat} {A : Around} {F : Frm} {ι ι' : List Addr} {ρ ρ' ρ₁ ρ₂ : List (Nat × MV)} {σ σ' σ₁ σ₂ σ₃ σ₄ : MH} {s s' : Shared} {i j a m ep : Nat} {v v₁ v₂ v₃ : MV} {xs vs : List MV} {es : List (MV × MV)} {rv : Value} {x : Str} {h h' : Heap} {fl fl' : Fl} {e : IE} {as : List (Nat × MV)} {Cl : Addr}
theorem interactive_no (ok : FrmOk C F) : interactive F.env = false := by
 unfold interactive; simp [ok.kind]
theorem swaps_no {e : Expr} {t : Option Expr} {l : Nat} {env : Env} (h : notComp e = true) : swapsWith e t l env = pure false := by
 cases e <;> first | rfl | exact ff h
theorem X1.expr (he : Ev C n e ρ σ v σ') : X1 C n (.expr e) ρ σ .next ρ σ' := by
 intro F st A ι s hc ok own r hA
 replace hc := onSExpr_inv hc; obtain ⟨x, pos, rfl, hc⟩ := hc
 refine wpAny_Expr_any (wpAny_mono (he F x A ι s (and2 hc).1 ok r hA) (fun rv s₁ p => ?_) fun _ _ z => z) (interactive_no ok) (swaps_no (and2 hc).2)
 obtain ⟨ι₁, R₁, V₁, S₁⟩ := p
 exact ⟨ι₁, hA.step ok R₁ S₁.heap, rfl, S₁.any⟩
theorem X1.setv (he : Ev C n e ρ σ v σ') : X1 C n (.setv i e) ρ σ .next (aset ρ i v) σ' := by
 intro F st A ι s hc ok own r hA
 replace hc := onSAssign_inv hc; obtain ⟨ts, x, pos, rfl, hc⟩ := hc
 replace hc := on1_inv hc; obtain ⟨t, rfl, hc⟩ := hc
 obtain ⟨c1, c2, c3⟩ := and3 hc
 replace c1 := chkN_inv c1; clear hc; obtain ⟨id, p, rfl, h1, h2⟩ := c1
 refine wpAny_Assign_Name (wpAny_mono (he F x A ι s c2 ok r hA) (fun rv s₁ p => ?_) fun _ _ z => z) (swaps_no c3)
 obtain ⟨ι₁, R₁, V₁, S₁⟩ := p
 refine wpAny_mono (store_R h1 ((isOwn_kind h2).imp_right fun q => ⟨own, q⟩) ok (hA.step ok R₁ S₁.heap) V₁) (fun _ s₂ p => ?_) fun _ _ z => z
 exact ⟨ι₁, p.1, rfl, S₁.any.trans p.2⟩
theorem PostX.trans {ι₁ : List Addr} {s₁ : Shared} {f : Flow} (S : Stp F.D ι s ι₁ s₁) (p : PostX C F ι₁ s₁ fl ρ' σ' f s') : PostX C F ι s fl ρ' σ' f s' := by
 obtain ⟨ι₂, A₂, L₂, S₂⟩ := p
 exact ⟨ι₂, A₂, L₂, S.trans S₂⟩
theorem X1.iteB {c : IE} {ts fs : List IS} {b : Bool} (hc : Tst C n c ρ σ b σ₁) (h : Xs C n (bif b then ts else fs) ρ σ₁ fl ρ' σ') : X1 C n (.ite c ts fs) ρ σ fl ρ' σ' := by
 intro F st A ι s hk ok own r hA
 replace hk := onSIf_inv hk; obtain ⟨x, ys, zs, pos, rfl, hk⟩ := hk
 obtain ⟨c1, c2, c3⟩ := and3 hk
 refine wpAny_If (wpAny_mono (hc F x A ι s c1 ok r hA) (fun b' s₁ p => ?_) fun _ _ z => z)
 obtain ⟨rfl, ι₁, R₁, S₁⟩ := p
 cases b' with
 | true => exact wpAny_mono (h F ys A ι₁ s₁ c2 ok own r (hA.step ok R₁ S₁.heap)) (fun f s₂ p => p.trans S₁.any) fun _ _ z => z
 | false => exact wpAny_mono (h F zs A ι₁ s₁ c3 ok own r (hA.step ok R₁ S₁.heap)) (fun f s₂ p => p.trans S₁.any) fun _ _ z => z
theorem X1.ite_t {c : IE} {ts fs : List IS} (hc : Tst C n c ρ σ true σ₁) (h : Xs C n ts ρ σ₁ fl ρ' σ') : X1 C n (.ite c ts fs) ρ σ fl ρ' σ' := X1.iteB hc h
theorem X1.ite_f {c : IE} {ts fs : List IS} (hc : Tst C n c ρ σ false σ₁) (h : Xs C n fs ρ σ₁ fl ρ' σ') : X1 C n (.ite c ts fs) ρ σ fl ρ' σ' := X1.iteB hc h
theorem X1.ret (he : Ev C n e ρ σ v σ') : X1 C n (.ret e) ρ σ (.ret v) ρ σ' := by
 intro F st A ι s hc ok own r hA
 replace hc := onSReturn_inv hc; obtain ⟨x, pos, rfl, hc⟩ := hc
 replace hc := onSome_inv hc; obtain ⟨x, rfl, hc⟩ := hc
 refine wpAny_Return_some (wpAny_mono (he F x A ι s hc ok r hA) (fun rv s₁ p => ?_) fun _ _ z => z)
 obtain ⟨ι₁, R₁, V₁, S₁⟩ := p
 exact ⟨ι₁, hA.step ok R₁ S₁.heap, ⟨rv, rfl, V₁⟩, S₁.any⟩
theorem X1.cont : X1 C n .cont ρ σ .cont ρ σ := by
 intro F st A ι s hc ok own r hA
 replace hc := onSContinue_inv hc; obtain ⟨pos, rfl, _⟩ := hc
 exact wpAny_Continue ⟨ι, hA, rfl, .refl ..⟩
theorem Xs.nil : Xs C n [] ρ σ .next ρ σ := by
 intro F sts A ι s hc ok own r hA
 have := nil_inv hc; subst this
 exact wpAny_execs_nil ⟨ι, hA, rfl, .refl ..⟩
theorem Xs.cons {st : IS} {ss : List IS} (h1 : X1 C n st ρ σ .next ρ₁ σ₁) (h2 : Xs C n ss ρ₁ σ₁ fl ρ' σ') : Xs C n (st :: ss) ρ σ fl ρ' σ' := by
 intro F sts A ι s hc ok own r hA
 replace hc := onCons_inv hc; obtain ⟨x, xs, rfl, hc⟩ := hc
 refine wpAny_execs_cons (wpAny_mono (h1 F x A ι s (and2 hc).1 ok own r hA) (fun f s₁ p => ?_) fun _ _ z => z)
 obtain ⟨ι₁, A₁, L₁, S₁⟩ := p
 cases (L₁ : _ = _)
 exact wpAny_mono (h2 F xs A ι₁ s₁ (and2 hc).2 ok own r A₁) (fun f s₂ p => p.trans S₁) fun _ _ z => z
theorem Xs.out {st : IS} {ss : List IS} (h1 : X1 C n st ρ σ fl ρ' σ') (hf : fl ≠ .next) : Xs C n (st :: ss) ρ σ fl ρ' σ' := by
 intro F sts A ι s hc ok own r hA
 replace hc := onCons_inv hc; obtain ⟨x, xs, rfl, hc⟩ := hc
 refine wpAny_execs_cons (wpAny_mono (h1 F x A ι s (and2 hc).1 ok own r hA) (fun f s₁ p => ?_) fun _ _ z => z)
 obtain ⟨ι₁, A₁, L₁, S₁⟩ := p
 cases fl with
 | next => exact absurd rfl hf
 | cont => cases (L₁ : _ = _); exact ⟨ι₁, A₁, rfl, S₁⟩
 | ret v => obtain ⟨rv, rfl, hrv⟩ := L₁; exact ⟨ι₁, A₁, ⟨rv, rfl, hrv⟩, S₁⟩
inductive WLoop (C : Cx) (n : Nat) (c : IE) (b : List IS) : Nat → List (Nat × MV) → MH → Fl → List (Nat × MV) → MH → Prop where
 | stop {k : Nat} {ρ : List (Nat × MV)} {σ σ' : MH} : Tst C n c ρ σ false σ' → WLoop C n c b k ρ σ .next ρ σ'
 | turn {k : Nat} {ρ ρ₁ ρ₂ : List (Nat × MV)} {σ σ₁ σ₂ σ₃ : MH} {fl fl' : Fl} : Tst C n c ρ σ true σ₁ → Xs C n b ρ σ₁ fl ρ₁ σ₂ → (fl = .next ∨ fl = .cont) → WLoop C n c b k ρ₁ σ₂ fl' ρ₂ σ₃ → WLoop C n c b (k + 1) ρ σ fl' ρ₂ σ₃
 | ret {k : Nat} {ρ ρ₁ : List (Nat × MV)} {σ σ₁ σ₂ : MH} {v : MV} : Tst C n c ρ σ true σ₁ → Xs C n b ρ σ₁ (.ret v) ρ₁ σ₂ → WLoop C n c b k ρ σ (.ret v) ρ₁ σ₂
theorem X1.while {k : Nat} {c : IE} {b : List IS} (hw : WLoop C n c b k ρ σ fl ρ' σ') : X1 C n (.while c b) ρ σ fl ρ' σ' := by
 intro F st A ι s hk ok own r hA
 replace hk := onSWhile_inv hk; obtain ⟨x, ys, orelse, pos, rfl, hk⟩ := hk
 obtain ⟨c0, c1, c2⟩ := and3 hk
 have := nil_inv c0; subst this
 clear hk c0
 refine wpAny_While ?_
 refine codeAny_whileLoop (fun k s' => E3 fun ι' ρk σk => N3 (At C F ι' σk ρk s'.heap) (Stp F.D ι s ι' s') (WLoop C n c b k ρk σk fl ρ' σ')) (fun k s' hI => ?_) k ⟨ι, ρ, σ, hA, .refl .., hw⟩
 clear hw hA
 obtain ⟨ι', ρk, σk, Ak, Sk, Wk⟩ := hI
 cases Wk with
 | stop ht =>
  refine noted_false (wpAny_mono (ht F x A ι' s' c1 ok r Ak) (fun b s₁ p => ?_) fun _ _ z => z)
  obtain ⟨rfl, ι₁, R₁, S₁⟩ := p
  exact wpAny_execs_nil ⟨ι₁, Ak.step ok R₁ S₁.heap, rfl, Sk.trans S₁.any⟩
 | turn ht hX hfl hW =>
  refine noted_false (wpAny_mono (ht F x A ι' s' c1 ok r Ak) (fun b s₁ p => ?_) fun _ _ z => z)
  obtain ⟨rfl, ι₁, R₁, S₁⟩ := p
  refine noted_false (wpAny_mono (hX F ys A ι₁ s₁ c2 ok own r (Ak.step ok R₁ S₁.heap)) (fun f s₂ p => ?_) fun _ _ z => z)
  obtain ⟨ι₂, A₂, L₂, S₂⟩ := p
  rcases hfl with rfl | rfl <;> cases (L₂ : _ = _) <;> exact ⟨_, Nat.lt_succ_self _, ι₂, _, _, A₂, Sk.trans (S₁.any.trans S₂), hW⟩
 | ret ht hX =>
  refine noted_false (wpAny_mono (ht F x A ι' s' c1 ok r Ak) (fun b s₁ p => ?_) fun _ _ z => z)
  obtain ⟨rfl, ι₁, R₁, S₁⟩ := p
  refine noted_false (wpAny_mono (hX F ys A ι₁ s₁ c2 ok own r (Ak.step ok R₁ S₁.heap)) (fun f s₂ p => ?_) fun _ _ z => z)
  obtain ⟨ι₂, A₂, L₂, S₂⟩ := p
  obtain ⟨rv, rfl, hrv⟩ := L₂
  exact ⟨ι₂, A₂, ⟨rv, rfl, hrv⟩, Sk.trans (S₁.any.trans S₂)⟩
end
end Mine
namespace Mine
open PySem PySem.W PyProof.Rows PySem.Calls PySem.Spec PySem.SeqAt
theorem filterMap_full {α β : Type} {f : α → Option β} : ∀ {l : List α}, (l.filterMap f).length = l.length → ∀ (k : Nat) (a : α), l[k]? = some a → ∃ b, (l.filterMap f)[k]? = some b ∧ f a = some b
 | [], _, k, a, h => nomatch h
 | x :: l, hl, k, a, h => by
  cases hx : f x with
  | none =>
   rw [List.filterMap_cons_none hx] at hl
   exact absurd (List.length_filterMap_le f l) (by rw [hl]; exact Nat.not_succ_le_self _)
  | some b =>
   rw [List.filterMap_cons_some hx] at hl ⊢
   cases k with
   | zero => cases h; exact ⟨b, rfl, hx⟩
   | succ k => exact filterMap_full (Nat.succ.inj hl) k a h
theorem ifs {α : Type} {x a u r : α} {c1 c2 c3 c4 c5 : Bool} (e : x = if c1 = true then a else if c2 = true then a else if c3 = true then a else if c4 = true then a else if c5 = true then u else r) (hp : c4 = true ∨ c5 = false) : x = a ∨ c3 = false ∧ x = r :=
 match c1, c2, c3, c4, c5 with
 | true, _, _, _, _ => .inl e
 | false, true, _, _, _ => .inl e
 | false, false, true, _, _ => .inl e
 | false, false, false, true, _ => .inl e
 | false, false, false, false, true => hp.elim ff Bool.noConfusion
 | false, false, false, false, false => .inr ⟨rfl, e⟩
theorem swapped_no {ts : List Expr} {a : Nat} {p : Pos} {x : Expr} {env : Env} (h : Nat.beq x.ctorIdx 25 = false) : swappedStores [.Tuple ts a p] x env = pure none := by
 cases x <;> first | rfl | exact Bool.noConfusion h
theorem or_inv {a b : Bool} (h : (a || b) = true) : a = true ∨ b = true := match a, h with
 | true, _ => .inl rfl
 | false, h => .inr h
theorem or_no {a b : Bool} (h : (a || b) = false) : a = false ∧ b = false := match a, b, h with
 | false, false, _ => ⟨rfl, rfl⟩
noncomputable def Swp (ts : List Expr) (a : Nat) (p : Pos) (env : Env) (x : Expr) : Prop :=
  swappedStores [.Tuple ts a p] x env = pure none ∨ E1 fun names : List Str => N3 (swappedStores [.Tuple ts a p] x env = pure (some names)) (names.length = ts.length) (∀ (k : Nat) (t : Expr), ts[k]? = some t → E2 fun id q => N3 (names[k]? = some id) (t = .Name id q) (env.kindOf id = some .local))
theorem name_full {env : Env} {l : Nat} {t : Expr} {id : Str} (h : (match t with | .Name nm q => if (env.kindOf nm == some .local && q.line == l) = true then some nm else none | _ => none) = some id) : E1 fun q => t = .Name id q ∧ env.kindOf id = some .local := by
 have ht : Nat.beq t.ctorIdx 23 = true := by cases t <;> first | rfl | cases h
 revert h
 refine PySem.Expr.Name.elim (motive_1 := fun t => (match t with | .Name nm q => if (env.kindOf nm == some .local && q.line == l) = true then some nm else none | _ => none) = some id → E1 fun q => t = .Name id q ∧ env.kindOf id = some .local) t (Nat.eq_of_beq_eq_true ht) fun nm q' h => ?_
 replace h : (if (env.kindOf nm == some .local && q'.line == l) = true then some nm else none) = some id := h
 cases hb : env.kindOf nm == some .local && q'.line == l with
 | true => rw [hb] at h; cases h; exact ⟨_, rfl, LawfulBEq.eq_of_beq (and2 hb).1⟩
 | false => rw [hb] at h; cases h
theorem swapped_tup {ts vs : List Expr} {a b : Nat} {p q : Pos} {env : Env} (hp : plainTup (.Tuple vs b q) = true) : Swp ts a p env (.Tuple vs b q) :=
 (ifs (x := swappedStores [.Tuple ts a p] (.Tuple vs b q) env) rfl ((or_inv hp).imp_right nott)).imp_right fun h =>
  have hl := LawfulBEq.eq_of_beq (nott' (or_no h.1).1)
  ⟨_, h.2, hl, fun k t ht => by
   obtain ⟨id, h1, h2⟩ := filterMap_full hl k t ht
   obtain ⟨q, h3, h4⟩ := name_full h2
   exact ⟨_, q, h1, h3, h4⟩⟩
theorem swapped_cases {ts : List Expr} {a : Nat} {p : Pos} {x : Expr} {env : Env} (hp : plainTup x = true) : Swp ts a p env x := by
 cases hx : Nat.beq x.ctorIdx 25 with
 | false => exact .inl (swapped_no hx)
 | true => exact PySem.Expr.Tuple.elim (motive_1 := fun x => plainTup x = true → Swp ts a p env x) x (Nat.eq_of_beq_eq_true hx) (fun vs b q hp => swapped_tup hp) hp
section
variable {C : Cx} {n : Nat} {A : Around} {F : Frm} {ι ι' : List Addr} {ρ ρ' ρ₁ ρ₂ : List (Nat × MV)} {σ σ' σ₁ σ₂ σ₃ σ₄ : MH} {s s' : Shared} {i j a m ep : Nat} {v v₁ v₂ v₃ : MV} {xs vs : List MV} {es : List (MV × MV)} {rv : Value} {x : Str} {h h' : Heap} {fl fl' : Fl} {e : IE} {as : List (Nat × MV)} {Cl : Addr}
theorem X1.sett {is : List Nat} (he : Ev C n e ρ σ (.tup vs) σ') (hl : vs.length = is.length := by rfl) : X1 C n (.sett is e) ρ σ .next (asets ρ is vs) σ' := by
 intro F st A ι s hc ok own r hA
 replace hc := onSAssign_inv hc; obtain ⟨ts, x, pos, rfl, hc⟩ := hc
 replace hc := on1_inv hc; obtain ⟨t, rfl, hc⟩ := hc
 replace hc := onTuple_inv hc; obtain ⟨tg, k, p, rfl, hc⟩ := hc
 obtain ⟨c1, c2, c3, c4, c5⟩ := and5 hc
 replace c5 := of_decide_eq_true c5
 rw [exec_Assign_arm]
 refine wpAny_bind (wpAny_standAt ?_)
 rw [show swapsWithSole [.Tuple tg k p] x pos.line F.env = pure false by unfold swapsWithSole; exact swaps_no c4]
 refine wpAny_bind (wpAny_pure ?_)
 rw [if_neg (by decide)]
 refine wpAny_bind (wpAny_mono (he F x A ι s c2 ok r hA) (fun rv s₁ p => ?_) fun _ _ z => z)
 obtain ⟨ι₁, R₁, V₁, S₁⟩ := p
 have A₁ := hA.step ok R₁ S₁.heap
 rcases swapped_cases (ts := tg) (a := k) (p := p) (env := F.env) c3 with h1 | ⟨names, h1, h2, h3⟩
 ·rw [h1]
  refine wpAny_bind (wpAny_pure ?_)
  show wpAny _ _ (assign (.Tuple tg k p) F.env rv >>= _) _ _ _
  refine wpAny_bind (wpAny_mono (assign_R (t := .t is) (ρ' := asets ρ is vs) c1 (.inl own) ok r A₁ V₁ (if_pos hl)) (fun _ s₂ p => wpAny_pure ?_) fun _ _ z => z)
  exact ⟨ι₁, p.1, rfl, S₁.any.trans p.2⟩
 ·rw [h1]
  refine wpAny_bind (wpAny_pure ?_)
  show wpAny _ _ (do rule "assign.swapped-stores"; let items ← unpackItems rv names.length none; assignInOrder (names.reverse.map fun n => bindName F.env n) items.reverse; pure Flow.next) _ _ _
  refine wpAny_bind (wpAny_rule ?_)
  obtain ⟨tp, items, k', rfl, ho, hvs⟩ := V₁
  obtain ⟨hl1, _⟩ := chkNs_each (env := F.env) c1
  have hsz : names.length = items.size := by rw [h2, hl1, ← hl, ← hvs.length]; simp
  rw [hsz]
  refine wpAny_bind (unpack_items r.1 ⟨_, ho, rfl, k', rfl⟩ fun h' hk' hz' => ?_)
  have S₂ : Stp [] ι₁ s₁ ι₁ { s₁ with heap := h' } := ⟨.same hk' hz', rfl, rfl⟩
  have A₂ : At C F ι₁ σ' ρ h' := A₁.step ok (R₁.same hk' hz') S₂.heap
  have hv₂ := (hvs.step R₁ .nil S₂.heap).reverse
  refine wpAny_bind (wpAny_mono (order_R (is := is.reverse) (vs := vs.reverse) (names := names.reverse) _ (by simp [h2, hl1]) (by simp [h2, hl1]) (fun q i y g1 g2 => ?_) (fun q f y g1 g2 u Q s' hw => ?_) ok (by simp [hl]) A₂ hv₂) (fun _ s₃ p => wpAny_pure ?_) fun _ _ z => z)
  ·have hq : q < is.length := by
    have := (List.getElem?_eq_some_iff.mp g1).1; simpa using this
   rw [List.getElem?_reverse hq] at g1
   rw [List.getElem?_reverse (by rw [h2, hl1]; exact hq)] at g2
   have hn : names.length = is.length := by rw [h2, hl1]
   rw [hn] at g2
   have hlt : is.length - 1 - q < tg.length := by rw [hl1]; omega
   obtain ⟨id, qq, k1, k2, k3⟩ := h3 _ _ (List.getElem?_eq_getElem hlt)
   rw [g2] at k1; cases k1
   have := chkNs_get c1 g1 (List.getElem?_eq_getElem hlt)
   rw [k2] at this
   obtain ⟨id', p', e1, e2, _⟩ := chkN_inv this
   cases e1
   exact ⟨e2, .inl k3⟩
  ·rw [List.getElem?_map] at g1
   rw [g2] at g1
   simp only [Option.map_some, Option.some.injEq] at g1
   subst g1
   exact wpAny_bindName hw
  ·exact ⟨ι₁, p.1.ext fun j => (alook_asets_rev j c5 hl.symm).symm, rfl, S₁.any.trans (S₂.any.trans p.2)⟩
theorem X1.seta {o : IE} (he : Ev C n e ρ σ v σ₁) (ho : Ev C n o ρ σ₁ (.inst Cl m) σ₂) (hm : σ₂[m]? = some (.ns as)) (hC : clsB C.K Cl = true) (hat : attrB C.K Cl a = true) : X1 C n (.seta o a e) ρ σ .next ρ (σ₂.set m (.ns (aset as a v))) := by
 intro F st A ι s hc ok own r hA
 replace hc := onSAssign_inv hc; obtain ⟨ts, x, pos, rfl, hc⟩ := hc
 replace hc := on1_inv hc; obtain ⟨t, rfl, hc⟩ := hc
 replace hc := onAttribute_inv hc; obtain ⟨ox, nm, p, rfl, hc⟩ := hc
 obtain ⟨c1, c2, c3, c4⟩ := and4 hc
 replace c2 := of_decide_eq_true c2
 rw [exec_Assign_arm]
 refine wpAny_bind (wpAny_standAt ?_)
 rw [show swapsWithSole [.Attribute ox nm p] x pos.line F.env = pure false by unfold swapsWithSole; exact swaps_no c4]
 refine wpAny_bind (wpAny_pure ?_)
 rw [if_neg (by decide)]
 refine wpAny_bind (wpAny_mono (he F x A ι s c3 ok r hA) (fun rv s₁ p => ?_) fun _ _ z => z)
 obtain ⟨ι₁, R₁, V₁, S₁⟩ := p
 have A₁ := hA.step ok R₁ S₁.heap
 rw [show swappedStores [.Attribute ox nm p] x F.env = pure none from rfl]
 refine wpAny_bind (wpAny_pure ?_)
 show wpAny _ _ ((do let ov ← holding [rv] (eval ox F.env); standAt p.atName; holding [rv, ov] (setAttr ov nm rv); release [rv, ov] []) >>= fun _ => pure Flow.next) _ _ _
 refine wpAny_bind (wpAny_bind (wpAny_holding (wpAny_mono (ho F ox A ι₁ s₁ c1 ok r A₁) (fun ov s₂ p => ?_) fun _ _ z => z)))
 obtain ⟨ι₂, R₂, V₂, S₂⟩ := p
 have A₂ := A₁.step ok R₂ S₂.heap
 refine wpAny_bind (wpAny_standAt (wpAny_bind (wpAny_holding (setAttr_R R₂ V₂ hm (clsOk hC) c2 hat (V₁.step R₁ .nil S₂.heap) fun s₃ p => wpAny_release ?_))))
 obtain ⟨ι₃, R₃, S₃⟩ := p
 exact wpAny_pure ⟨ι₃, A₂.step ok R₃ S₃.heap, rfl, S₁.any.trans (S₂.any.trans S₃.any)⟩
theorem X1.seti {o ix : IE} (he : Ev C n e ρ σ v σ₁) (ho : Ev C n o ρ σ₁ v₁ σ₂) (hi : Ev C n ix ρ σ₂ v₂ σ₃) (hs : OpU C n [v₁, v₂, v] σ₃ setF σ₄) : X1 C n (.seti o ix e) ρ σ .next ρ σ₄ := by
 intro F st A ι s hc ok own r hA
 replace hc := onSAssign_inv hc; obtain ⟨ts, x, pos, rfl, hc⟩ := hc
 replace hc := on1_inv hc; obtain ⟨t, rfl, hc⟩ := hc
 replace hc := onSubscript_inv hc; obtain ⟨ox, iy, p, rfl, hc⟩ := hc
 obtain ⟨c1, c2, c3, c4, c5⟩ := and5 hc
 refine wpAny_Assign_Subscript (wpAny_mono (he F x A ι s c4 ok r hA) (fun rv s₁ p => ?_) fun _ _ z => z) (swaps_no c5)
 obtain ⟨ι₁, R₁, V₁, S₁⟩ := p
 have A₁ := hA.step ok R₁ S₁.heap
 refine wpAny_mono (ho F ox A ι₁ s₁ c1 ok r A₁) (fun ov s₂ p => ?_) fun _ _ z => z
 obtain ⟨ι₂, R₂, V₂, S₂⟩ := p
 have A₂ := A₁.step ok R₂ S₂.heap
 refine wpAny_mono (hi F iy A ι₂ s₂ c2 ok r A₂) (fun iv s₃ p => ?_) fun _ _ z => z
 obtain ⟨ι₃, R₃, V₃, S₃⟩ := p
 have A₃ := A₂.step ok R₃ S₃.heap
 refine wpAny_mono (hs A ι₃ s₃ [ov, iv, rv] r R₃ (.cons (V₂.step R₂ .nil S₃.heap) (.cons V₃ (.cons ((V₁.step R₁ .nil S₂.heap).step R₂ .nil S₃.heap) .nil)))) (fun _ s₄ p => ?_) fun _ _ z => z
 obtain ⟨ι₄, R₄, S₄⟩ := p
 exact ⟨ι₄, A₃.step ok R₄ S₄.heap, rfl, S₁.any.trans (S₂.any.trans (S₃.any.trans S₄.any))⟩
end
end Mine
namespace Mine
open PySem PySem.W PyProof.Rows PySem.Calls PySem.Spec PySem.SeqAt
section
variable {C : Cx} {n : Nat} {A : Around} {F : Frm} {ι ι' : List Addr} {ρ ρ' ρ₁ ρ₂ : List (Nat × MV)} {σ σ' σ₁ σ₂ σ₃ σ₄ : MH} {s s' : Shared} {i j a m ep : Nat} {v v₁ v₂ v₃ : MV} {xs vs : List MV} {es : List (MV × MV)} {rv : Value} {x : Str} {h h' : Heap} {fl fl' : Fl} {e : IE} {as : List (Nat × MV)} {Cl : Addr}
inductive TstA (C : Cx) (n : Nat) : List IE → List (Nat × MV) → MH → Bool → MH → Prop where
 | nil {ρ : List (Nat × MV)} {σ : MH} : TstA C n [] ρ σ true σ
 | one {c : IE} {ρ : List (Nat × MV)} {σ σ' : MH} {b : Bool} : Tst C n c ρ σ b σ' → TstA C n [c] ρ σ b σ'
inductive CL (C : Cx) (n : Nat) (em : List (Nat × MV) → MH → MH → Prop) : List Tg → List IE → List (List IE) → Tg → List IE → (MH → Prop) → List MV → List (Nat × MV) → MH → List (Nat × MV) → MH → Prop where
 | nil {ts : List Tg} {is : List IE} {fs : List (List IE)} {t : Tg} {f : List IE} {dep : MH → Prop} {ρ : List (Nat × MV)} {σ : MH} : dep σ → CL C n em ts is fs t f dep [] ρ σ ρ σ
 | skip {ts : List Tg} {is : List IE} {fs : List (List IE)} {t : Tg} {f : List IE} {dep : MH → Prop} {x : MV} {xs : List MV} {ρ ρ₁ ρ' : List (Nat × MV)} {σ σ₁ σ' : MH} : dep σ → bindT t x ρ = some ρ₁ → TstA C n f ρ₁ σ false σ₁ → CL C n em ts is fs t f dep xs ρ₁ σ₁ ρ' σ' → CL C n em ts is fs t f dep (x :: xs) ρ σ ρ' σ'
 | emit {t : Tg} {f : List IE} {dep : MH → Prop} {x : MV} {xs : List MV} {ρ ρ₁ ρ' : List (Nat × MV)} {σ σ₁ σ₂ σ' : MH} : dep σ → bindT t x ρ = some ρ₁ → TstA C n f ρ₁ σ true σ₁ → em ρ₁ σ₁ σ₂ → CL C n em [] [] [] t f dep xs ρ₁ σ₂ ρ' σ' → CL C n em [] [] [] t f dep (x :: xs) ρ σ ρ' σ'
 | inner {ts : List Tg} {is : List IE} {fs : List (List IE)} {t t' : Tg} {i' : IE} {f f' : List IE} {dep dep' : MH → Prop} {x : MV} {xs ys : List MV} {ρ ρ₁ ρ₂ ρ' : List (Nat × MV)} {σ σ₁ σ₂ σ₃ σ' : MH} : dep σ → bindT t x ρ = some ρ₁ → TstA C n f ρ₁ σ true σ₁ → ItEv C n i' ρ₁ σ₁ ys dep' σ₂ → CL C n em ts is fs t' f' dep' ys ρ₁ σ₂ ρ₂ σ₃ →
   CL C n em (t' :: ts) (i' :: is) (f' :: fs) t f dep xs ρ₂ σ₃ ρ' σ' → CL C n em (t' :: ts) (i' :: is) (f' :: fs) t f dep (x :: xs) ρ σ ρ' σ'
noncomputable def EmitR (C : Cx) (n : Nat) (F : Frm) (acc : Addr) (a : Nat) (em : Sem Unit) (ρ : List (Nat × MV)) (σ σ' : MH) : Prop :=
 ∀ (A : Around) (ι : List Addr) (s : Shared), Room A n → At C F ι σ ρ s.heap → ι[a]? = some acc → wpAny (model C.prog C.w) A em (fun _ s' => PostU C ι s σ' s') (fun _ _ => False) s
theorem tests_R {f : List IE} {b : Bool} {fx : List Expr} (ht : TstA C n f ρ σ b σ') (hc : chks F.env.scope.names f fx = true) (ok : FrmOk C F) (r : Room A n) (hA : At C F ι σ ρ s.heap) :
  wpAny (model C.prog C.w) A (forIn fx true fun c r => if r = true then do let ok ← isTrue c F.env (eval c F.env); pure (ForInStep.yield ok) else pure (ForInStep.yield r)) (PostB C ι s b σ') (fun _ _ => False) s := by
 cases ht with
 | nil => have := nil_inv hc; subst this; exact wpAny_pure ⟨rfl, ι, hA.rel, .refl ..⟩
 | one ht =>
  replace hc := onCons_inv hc; obtain ⟨x, xs, rfl, hc⟩ := hc
  replace hc := and3 hc
  have := nil_inv hc.3; subst this
  rw [List.forIn_cons]
  refine wpAny_bind ?_
  show wpAny _ _ (isTrue x F.env (eval x F.env) >>= _) _ _ _
  exact wpAny_bind (wpAny_mono (ht F x A ι s hc.1 ok r hA) (fun b' s₁ p => wpAny_pure (wpAny_pure p)) fun _ _ z => z)
noncomputable def compBody (te : Expr) (fx : List Expr) (it v : Value) (env : Env) (K : Bool → Sem PySem.Fin) : Sem PySem.Fin := do
 letOwnedTupleGo te it v
 assign te env v
 let ok ← forIn fx true fun c r => if r = true then do let ok ← isTrue c env (eval c env); pure (ForInStep.yield ok) else pure (ForInStep.yield r)
 K ok
noncomputable def compTail (e : Expr) (gens : List Comprehension) (d : Nat) (it acc : Value) (env : Env) (em : Sem Unit) (ok : Bool) : Sem PySem.Fin := do
 if ok then
  match gens[d + 1]? with
  | some g' =>
   let x ← eval g'.iter env
   standAt g'.iter.pos
   let x ← if g'.is_async != 0 then foldedIterable g'.iter x else foldedSetIterable g'.iter env x
   let _ ← runOwn (.compStart e (d + 1) (← holding [x] (if g'.is_async != 0 then asyncIter x else pyIter x)) acc env) env
  | none => em
 again (.compLoop e d it acc env)
theorem tail_emit {e : Expr} {gens : List Comprehension} {d : Nat} {it acc : Value} {env : Env} {em : Sem Unit} (h : gens[d + 1]? = none) : compTail e gens d it acc env em true = (do em; again (.compLoop e d it acc env)) := by
 unfold compTail; rw [h]; rfl
theorem tail_inner {e ie te : Expr} {fx : List Expr} {gens : List Comprehension} {d : Nat} {it acc : Value} {env : Env} {em : Sem Unit} (h : gens[d + 1]? = some ⟨te, ie, fx, 0⟩) : compTail e gens d it acc env em true = (do
  let x ← eval ie env
  standAt ie.pos
  let x ← foldedSetIterable ie env x
  let _ ← runOwn (.compStart e (d + 1) (← holding [x] (pyIter x)) acc env) env
  again (.compLoop e d it acc env)) := by
 unfold compTail; rw [h]; rfl
structure CompE (e : Expr) (gens : List Comprehension) (acc : Value) (env : Env) (em : Sem Unit) : Prop where
 cls : clausesOf e = gens
 denS : ∀ (prog : Program) (w : World) (d : Nat) (it : Value), (model prog w).den (.compStart e d it acc env) = (compStart e d it acc env).onRaise (fun x => do noteFrame x env; standAt theWindowsPlace)
 denL : ∀ (prog : Program) (w : World) (d : Nat) (it : Value), (model prog w).den (.compLoop e d it acc env) = (compTurn e d it acc env).onRaise (fun x => do noteFrame x env; theTreesLotGoes x)
 undS : ∀ (A : Around) (d : Nat) (it : Value), A.under (.compStart e d it acc env) = A
 undL : ∀ (A : Around) (d : Nat) (it : Value), A.under (.compLoop e d it acc env) = A
 turn : ∀ (d : Nat) (it : Value) (g : Comprehension), gens[d]? = some g → g.is_async = 0 → compTurn e d it acc env = (do
  standAt g.iter.pos
  match ← pyNext it with
  | none => pure (.done .next)
  | some v => compBody g.target g.ifs it v env (compTail e gens d it acc env em))
theorem compE_list {elt : Expr} {gens : List Comprehension} {scope : Scope} {pos : Pos} {acc : Value} {env : Env} : CompE (.ListComp elt gens scope pos) gens acc env (do let _ ← call (.builtin "list.append") [acc, ← eval elt env]) where
 cls := rfl
 denS := fun _ _ _ _ => rfl
 denL := fun _ _ _ _ => rfl
 undS := fun _ _ _ => rfl
 undL := fun _ _ _ => rfl
 turn := fun d it g hg ha => by
  unfold compTurn
  simp only [hg, ha]
  rfl
theorem start_R {R : Result → Shared → Prop} {e : Expr} {gens : List Comprehension} {emc : Sem Unit} {g : Comprehension} {d : Nat} {it acc : Value} {env : Env} (hE : CompE e gens acc env emc) (hcl : gens[d]? = some g) (ha : g.is_async = 0) (h0 : codeAny (model C.prog C.w) A (.compLoop e d it acc env) R s)
  (h : wpAny (model C.prog C.w) A (pyIter it) (fun it' s' => codeAny (model C.prog C.w) A (.compLoop e d it' acc env) R s') (fun _ _ => False) s) : codeAny (model C.prog C.w) A (.compStart e d it acc env) R s := by
 refine codeAny_of_tree ?_
 rw [hE.denS, hE.undS]
 refine wpAny_notedAt ?_
 unfold compStart
 rw [hE.cls, hcl]
 simp only [Option.elim, ha]
 show wpAny _ _ (ask >>= _) _ _ s
 refine wpAny_bind (wpAny_askSetting (wpAny_ite ?_))
 split
 ·first
   | exact wpAny_bind (wpAny_pure (wpAny_pure (And.intro rfl h0)))
   | exact wpAny_pure (And.intro rfl h0)
 ·first
   | exact wpAny_bind (wpAny_rule (wpAny_bind (wpAny_standAt (wpAny_bind (noted_false (wpAny_mono h (fun it' s' h' => wpAny_pure (And.intro rfl h')) fun _ _ x => x))))))
   | (refine wpAny_bind (wpAny_rule ?_); show wpAny _ _ (standAt g.iter.pos >>= _) _ _ s; exact wpAny_bind (wpAny_standAt (wpAny_bind (noted_false (wpAny_mono h (fun it' s' h' => wpAny_pure (And.intro rfl h')) fun _ _ x => x)))))
inductive CInv (C : Cx) (n : Nat) (F : Frm) (ι : List Addr) (s : Shared) (xs : List MV) (em : List (Nat × MV) → MH → MH → Prop) (ts : List Tg) (is : List IE) (fs : List (List IE)) (t : Tg) (f : List IE) (dep : MH → Prop) (its : List Addr) (P : Nat → List Addr → Heap → Prop) (acc : Addr) (a : Nat) (ρ' : List (Nat × MV)) (σ' : MH) (m : Nat) (s' : Shared) : Prop where
 | mk (k : Nat) (ι' : List Addr) (ρk : List (Nat × MV)) (σk : MH) (hm : m = xs.length - k) (Pk : P k ι' s'.heap) (Ak : At C F ι' σk ρk s'.heap) (Sk : Stp (its ++ F.D) ι s ι' s') (ha : ι'[a]? = some acc) (hk : k ≤ xs.length) (Lk : CL C n em ts is fs t f dep (xs.drop k) ρk σk ρ' σ')
section
variable {em : List (Nat × MV) → MH → MH → Prop} {ts : List Tg} {is : List IE} {fs : List (List IE)} {t : Tg} {f : List IE} {dep : MH → Prop} {ita : Addr} {its : List Addr} {P : Nat → List Addr → Heap → Prop} {acc : Addr} {k : Nat} {y : MV} {ys : List MV}
theorem CInv.next (hys : xs.drop k = y :: ys) (Pk : P (k + 1) ι' s'.heap) (Ak : At C F ι' σ₁ ρ₁ s'.heap) (Sk : Stp (its ++ F.D) ι s ι' s') (ha : ι'[a]? = some acc) (Lk : CL C n em ts is fs t f dep ys ρ₁ σ₁ ρ' σ') :
  ∃ m, m < xs.length - k ∧ CInv C n F ι s xs em ts is fs t f dep its P acc a ρ' σ' m s' :=
 ⟨_, Nat.sub_succ_lt_self _ _ (drop_cons hys).3, k + 1, ι', _, _, rfl, Pk, Ak, Sk, ha, (drop_cons hys).3, by rw [(drop_cons hys).2]; exact Lk⟩
theorem comp_front {Q : PySem.Fin → Shared → Prop} {E : Value → Shared → Prop} {K : Bool → Sem PySem.Fin} {te : Expr} {fx : List Expr} {b : Bool} (c1 : chkT F.env.scope.names t te = true) (c2 : chkTL F.env.scope.names t = true) (c3 : chks F.env.scope.names f fx = true) (ok : FrmOk C F) (r : Room A n)
  (W : Walk C n xs dep ita its P) (hDs : ∀ b ∈ its, b ∉ F.D) (Pk : P k ι' s'.heap) (Ak : At C F ι' σ ρ s'.heap) (Sk : Stp (its ++ F.D) ι s ι' s') (hak : ι'[a]? = some acc) (hyk : xs[k]? = some y) (hdep : dep σ) (hb : bindT t y ρ = some ρ₁) (hT : TstA C n f ρ₁ σ b σ₁)
  (hQ : ∀ s₃ ι₃, At C F ι₃ σ₁ ρ₁ s₃.heap → Stp (its ++ F.D) ι s ι₃ s₃ → ι₃[a]? = some acc → P (k + 1) ι₃ s₃.heap → wpAny (model C.prog C.w) A (K b) Q E s₃) :
  wpAny (model C.prog C.w) A (pyNext (.ref ita)) (fun r s₁ => wpAny (model C.prog C.w) A (match r with | none => pure (.done .next) | some v => compBody te fx (.ref ita) v F.env K) Q E s₁) E s' := by
 refine noted_false (W.next A k ι' s' σ y _ r hdep Ak.rel Pk hyk fun rv s₁ T₁ V₁ P₁ => ?_)
 have A₁ := Ak.touch (W.iok _ _ _ Pk) T₁ ok hDs
 refine wpAny_bind (noted_false (W.go A (k + 1) ι' s₁ σ te rv _ A₁.rel P₁ fun s₁' T₁' P₁' => ?_))
 have A₁' := A₁.touch (W.iok _ _ _ P₁) T₁' ok hDs
 refine wpAny_bind (noted_false (wpAny_mono (assign_R c1 (.inr c2) ok r A₁' (V₁.step A₁.rel (W.iok _ _ _ P₁).dok T₁'.step) hb) (fun _ s₂ p => ?_) fun _ _ z => z))
 obtain ⟨A₂, S₂'⟩ := p
 refine wpAny_bind (noted_false (wpAny_mono (tests_R hT c3 ok r A₂) (fun f s₃ p => ?_) fun _ _ z => z))
 obtain ⟨rfl, ι₃, R₃, S₃⟩ := p
 exact hQ s₃ ι₃ (A₂.step ok R₃ S₃.heap) (Sk.trans (T₁.stp.trans (T₁'.stp.trans (S₂'.inl.trans S₃.any)))) (S₃.heap.get? hak) (W.stable _ _ _ _ _ _ (W.stable _ _ _ _ _ _ P₁' hDs S₂'.heap (S₂'.heap.imm A₁'.rel A₁'.dok)) (fun _ _ => List.not_mem_nil) S₃.heap (S₃.heap.imm A₂.rel .nil))
end
noncomputable def CompS (C : Cx) (n : Nat) (F : Frm) (A : Around) (em : List (Nat × MV) → MH → MH → Prop) (e : Expr) (gens : List Comprehension) (acc : Addr) (a : Nat) (ts : List Tg) : Prop :=
  ∀ (is : List IE) (fs : List (List IE)) (d : Nat) (t : Tg) (f : List IE) (te ie : Expr) (fx : List Expr) (gs : List Comprehension) (dep : MH → Prop) (xs : List MV) (ρ' : List (Nat × MV)) (σ' : MH) (ita : Addr) (its : List Addr) (P : Nat → List Addr → Heap → Prop) (ι : List Addr) (s : Shared) (R : Result → Shared → Prop),
   gens.drop d = ⟨te, ie, fx, 0⟩ :: gs → chkT F.env.scope.names t te = true → chkTL F.env.scope.names t = true → chks F.env.scope.names f fx = true → chkgs F.env.scope.names F.env.scope.names ts is fs gs = true →
   Walk C n xs dep ita its P → (∀ b ∈ its, b ∉ F.D) →
   (∀ s' ι', At C F ι' σ' ρ' s'.heap → Stp (its ++ F.D) ι s ι' s' → R (.ok .next) s') →
   ∀ (m : Nat) (s' : Shared), CInv C n F ι s xs em ts is fs t f dep its P acc a ρ' σ' m s' → codeAny (model C.prog C.w) A (.compLoop e d (.ref ita) (.ref acc) F.env) R s'
noncomputable def okR (J : Shared → Prop) : Result → Shared → Prop
 | .ok _, s => J s
 | .error _, _ => False
theorem comp_step {em : List (Nat × MV) → MH → MH → Prop} {e : Expr} {gens : List Comprehension} {acc : Addr} {emc : Sem Unit} (hE : CompE e gens (.ref acc) F.env emc) (hem : ∀ ρ σ σ', em ρ σ σ' → EmitR C n F acc a emc ρ σ σ') (ok : FrmOk C F) (r : Room A n)
  {ts : List Tg} (ih : ∀ t' ts', ts = t' :: ts' → CompS C n F A em e gens acc a ts') : CompS C n F A em e gens acc a ts := by
 intro is fs d t f te ie fx gs dep xs ρ' σ' ita its P ι s R hg c1 c2 c3 c4 W hDs hR m₀ s₀ h₀
 obtain ⟨hg0, hg1, _⟩ := drop_cons hg
 refine codeAny_loop rfl (CInv C n F ι s xs em ts is fs t f dep its P acc a ρ' σ') (fun m s' hI => ?_) m₀ h₀
 clear h₀ hg
 obtain ⟨k, ι', ρk, σk, rfl, Pk, Ak, Sk, hak, hk, Lk⟩ := hI
 rw [hE.denL, hE.undL]
 refine wpAny_noted ?_
 rw [hE.turn d (.ref ita) _ hg0 rfl]
 refine wpAny_bind (wpAny_standAt (wpAny_bind ?_))
 generalize hys : xs.drop k = ys at Lk
 cases Lk with
 | nil hdep => exact noted_false (W.stop A k ι' s' _ _ r hdep Ak.rel Pk (List.drop_eq_nil_iff.mp hys) fun s₁ T₁ => wpAny_pure (hR _ ι' (Ak.touch (W.iok _ _ _ Pk) T₁ ok hDs) (Sk.trans T₁.stp)))
 | skip hdep hb hT hL => exact comp_front c1 c2 c3 ok r W hDs Pk Ak Sk hak (drop_cons hys).1 hdep hb hT fun s₃ ι₃ A₃ S₃ a₃ P₃ => wpAny_pure ⟨rfl, CInv.next hys P₃ A₃ S₃ a₃ hL⟩
 | emit hdep hb hT he hL =>
  refine comp_front c1 c2 c3 ok r W hDs Pk Ak Sk hak (drop_cons hys).1 hdep hb hT fun s₃ ι₃ A₃ S₃ a₃ P₃ => ?_
  rw [tail_emit (by rw [← List.head?_drop, hg1, nil_inv (and3 c4).1]; rfl)]
  refine wpAny_bind (noted_false (wpAny_mono (hem _ _ _ he A ι₃ s₃ r A₃ a₃) (fun _ s₄ p => ?_) fun _ _ z => z))
  obtain ⟨ι₄, R₄, S₄⟩ := p
  exact wpAny_pure ⟨rfl, CInv.next hys (W.stable _ _ _ _ _ _ P₃ (fun _ _ => List.not_mem_nil) S₄.heap (S₄.heap.imm A₃.rel .nil)) (A₃.step ok R₄ S₄.heap) (S₃.trans S₄.any) (S₄.heap.get? a₃) hL⟩
 | inner hdep hb hT hi hin hL =>
  obtain ⟨te', ie', fx', gs', e1, d1, d2, d3, d4, d5, d6⟩ := chkgs_inv c4
  rw [e1] at hg1
  refine comp_front c1 c2 c3 ok r W hDs Pk Ak Sk hak (drop_cons hys).1 hdep hb hT fun s₃ ι₃ A₃ S₃ a₃ P₃ => ?_
  rw [tail_inner (drop_cons hg1).1]
  refine wpAny_bind (noted_false (wpAny_mono (hi F ie' A ι₃ s₃ d3 ok r A₃) (fun rv s₄ p => wpAny_bind (wpAny_standAt ?_)) fun _ _ z => z))
  rw [folded_no d4]
  refine wpAny_bind (wpAny_pure (wpAny_bind (wpAny_holding (noted_false (wpAny_mono p (fun it' s₅ p => ?_) fun _ _ z => z)))))
  obtain ⟨ι₅, ita', its', P', rfl, R₅, S₅, W', P₅, hits'⟩ := p
  have loop := ih _ _ rfl _ _ (d + 1) _ _ te' ie' fx' gs' _ _ _ _ ita' its' P' ι₃ s₃ (okR fun s₆ => ∃ m, m < xs.length - k ∧ CInv C n F ι s xs em _ _ _ t f dep its P acc a ρ' σ' m s₆) hg1 d1 d2 d5 d6 W' (A₃.off hits') (fun s₆ ι₆ A₆ S₆ => by
   have S₆' := S₆.offs hits'
   exact CInv.next hys (W.stable _ _ _ _ _ _ P₃ hDs S₆'.heap (S₆'.heap.imm A₃.rel A₃.dok)) A₆ (S₃.trans S₆'.inl) (S₆'.heap.get? a₃) hL) _ s₅ ⟨0, ι₅, _, _, rfl, P₅, A₃.step ok R₅ S₅.heap, S₅.any, S₅.heap.get? a₃, Nat.zero_le _, hin⟩
  refine wpAny_bind (wpAny_runOwn (codeAny_mono (start_R hE (drop_cons hg1).1 rfl loop (W'.self A 0 ι₅ s₅ _ P₅ loop)) fun r s₆ q => ?_))
  cases r with
  | ok f => exact wpAny_pure ⟨rfl, q⟩
  | error x => exact q.elim
theorem comp_R {em : List (Nat × MV) → MH → MH → Prop} {e : Expr} {gens : List Comprehension} {acc : Addr} {emc : Sem Unit} (hE : CompE e gens (.ref acc) F.env emc) (hem : ∀ ρ σ σ', em ρ σ σ' → EmitR C n F acc a emc ρ σ σ') (ok : FrmOk C F) (r : Room A n) :
  ∀ (ts : List Tg), CompS C n F A em e gens acc a ts
 | [] => comp_step hE hem ok r fun _ _ h => by cases h
 | _ :: ts => comp_step hE hem ok r fun _ _ h => by cases h; exact comp_R hE hem ok r ts
end
end Mine
namespace Mine
open PySem PySem.W PyProof.Rows PySem.Calls PySem.Spec PySem.SeqAt
noncomputable def capr (ρ : List (Nat × MV)) : List Nat → List (Nat × MV)
 | [] => []
 | i :: is => match alook ρ i with
  | some v => (i, v) :: capr ρ is
  | none => capr ρ is
theorem capr_some {ρ : List (Nat × MV)} {i : Nat} {v : MV} : ∀ {cap : List Nat}, alook (capr ρ cap) i = some v → i ∈ cap ∧ alook ρ i = some v
 | [], h => nomatch h
 | j :: is, h => by
  replace h : alook (match alook ρ j with | some v => (j, v) :: capr ρ is | none => capr ρ is) i = some v := h
  cases hj : alook ρ j with
  | none => rw [hj] at h; exact (capr_some h).imp_left (.tail _)
  | some u =>
   rw [hj] at h
   replace h : (if Nat.beq j i = true then some u else alook (capr ρ is) i) = some v := h
   cases hb : Nat.beq j i with
   | true => rw [hb] at h; cases h; rw [← Nat.eq_of_beq_eq_true hb]; exact ⟨.head _, hj⟩
   | false => rw [hb] at h; exact (capr_some h).imp_left (.tail _)
theorem closure_go {env : Env} : ∀ {names : List (Str × NameKind)} (cs : List (Str × Addr)), (∀ y ∈ names, y.2 = .free → ∃ c, env.cells.lookup y.1 = some c) → (∀ y c, cs.lookup y = some c → env.cells.lookup y = some c) →
  ∃ cl, (forIn names cs fun (x : Str × NameKind) cs => match x with | (name, kind) => if (kind == .free) = true then do let c ← cellOf env name; pure (ForInStep.yield ((name, c) :: cs)) else pure (ForInStep.yield cs)) = (pure cl : Sem _) ∧
   (∀ y c, cl.lookup y = some c → env.cells.lookup y = some c) ∧ (∀ y ∈ names, y.2 = .free → (cl.lookup y.1).isSome = true) ∧ (∀ y, (cs.lookup y).isSome = true → (cl.lookup y).isSome = true)
 | [], cs, _, hcs => ⟨cs, by rw [List.forIn_nil], hcs, by simp, fun _ h => h⟩
 | (nm, k) :: r, cs, hf, hcs => by
  rw [List.forIn_cons]
  by_cases hk : k = .free
  ·subst hk
   obtain ⟨c, hc⟩ := hf (nm, .free) (by simp) rfl
   have hcell : cellOf env nm = pure c := by unfold cellOf; rw [hc]
   obtain ⟨cl, h1, h2, h3, h4⟩ := closure_go (names := r) ((nm, c) :: cs) (fun y hy => hf y (by simp [hy])) (fun y c' h => by
    rw [List.lookup_cons] at h
    split at h
    ·rename_i q; cases h; rw [eq_of_beq q]; exact hc
    ·exact hcs y c' h)
   refine ⟨cl, ?_, h2, fun y hy hyf => ?_, fun y hy => h4 y ?_⟩
   ·simp only [beq_self_eq_true, if_true, hcell, pure_bind]
    exact h1
   ·rcases List.mem_cons.mp hy with rfl | hy
    ·exact h4 _ (by simp)
    ·exact h3 y hy hyf
   ·rw [List.lookup_cons]; split
    ·rfl
    ·exact hy
  ·have hk' : (k == NameKind.free) = false := by simpa using hk
   obtain ⟨cl, h1, h2, h3, h4⟩ := closure_go (names := r) cs (fun y hy => hf y (by simp [hy])) hcs
   refine ⟨cl, ?_, h2, fun y hy hyf => ?_, h4⟩
   ·simp only [hk', Bool.false_eq_true, if_false, pure_bind]
    exact h1
   ·rcases List.mem_cons.mp hy with rfl | hy
    ·exact absurd hyf hk
    ·exact h3 y hy hyf
theorem closure_R {scope : Scope} {env : Env} (hf : ∀ y ∈ scope.names, y.2 = .free → ∃ c, env.cells.lookup y.1 = some c) :
  ∃ cl, closureFor scope env = pure cl ∧ (∀ y c, cl.lookup y = some c → env.cells.lookup y = some c) ∧ (∀ y ∈ scope.names, y.2 = .free → (cl.lookup y.1).isSome = true) := by
 obtain ⟨cl, h1, h2, h3, _⟩ := closure_go (env := env) (names := scope.names) [] hf (fun _ _ h => by simp at h)
 refine ⟨cl, ?_, h2, h3⟩
 unfold closureFor
 exact (congrArg (fun m : Sem (List (Str × Addr)) => m >>= fun cs => pure cs) h1).trans (pure_bind _ _)
theorem lookup_inner {outer : Names} {y : Str} : ∀ {ns : Names}, (inner ns outer).lookup y = (ns.lookup y).map fun k => if k == .free && outer.lookup y == some .cell then .cell else k
 | [] => rfl
 | (nm, k) :: r => by
  have ih := @lookup_inner outer y r
  unfold inner at ih ⊢
  rw [List.map_cons]
  cases hy : y == nm with
  | true =>
   have : y = nm := eq_of_beq hy
   subst this
   by_cases hc : (k == .free && outer.lookup y == some .cell) = true
   ·simp only [hc, if_true, List.lookup_cons, beq_self_eq_true, Option.map_some]
   ·simp only [hc, if_false, List.lookup_cons, beq_self_eq_true, Option.map_some, Bool.false_eq_true]
  | false =>
   have hl : ∀ (z : Str × NameKind), z.1 = nm → ∀ l, List.lookup y (z :: l) = List.lookup y l := fun z hz l => by
    obtain ⟨z1, z2⟩ := z; simp only at hz; subst hz; rw [List.lookup_cons, hy]
   rw [hl _ (by dsimp only; split <;> rfl), List.lookup_cons, hy]
   exact ih
section
variable {C : Cx} {n : Nat} {A : Around} {F : Frm} {ι ι' : List Addr} {ρ ρ' ρ₁ ρ₂ : List (Nat × MV)} {σ σ' σ₁ σ₂ σ₃ σ₄ : MH} {s s' : Shared} {j a m ep : Nat} {v v₁ v₂ v₃ : MV} {xs vs : List MV} {es : List (MV × MV)} {rv : Value} {x : Str} {h h' : Heap}
theorem relabel_inner {scope : Scope} (ok : FrmOk C F) : (relabel scope F.env).names = inner scope.names F.env.scope.names := by
 unfold relabel inner Env.kindOf
 simp [ok.kind]
noncomputable def Outer (outer : Names) (y : Str) : Prop := outer.lookup y = some .cell ∨ outer.lookup y = some .free
theorem cap_names {names outer : Names} (h : (names.all fun (n, k) => (k == .local || k == .globalImplicit || (k == .free && (outer.lookup n == some .cell || outer.lookup n == some .free) && !(n == ("__classdict__" : Str)))) && names.lookup n == some k && (!(k == .free) || tab.contains n)) = true) {y : Str} {k : NameKind} (hy : (y, k) ∈ names) :
  N3 (k = .local ∨ k = .globalImplicit ∨ (k = .free ∧ Outer outer y)) (names.lookup y = some k) (k = .free → ∃ j : Nat, tab[j]? = some y) := by
 obtain ⟨h1, h2, h3⟩ := and3 (List.all_eq_true.mp h _ hy)
 refine ⟨?_, LawfulBEq.eq_of_beq h2, fun hf => (or_inv h3).elim (fun q => ff (by rw [← nott q, hf]; rfl)) fun q => List.mem_iff_getElem?.mp (by simpa using q)⟩
 rcases or_inv h1 with h1 | h1
 ·exact (or_inv h1).elim (fun q => .inl (LawfulBEq.eq_of_beq q)) fun q => .inr (.inl (LawfulBEq.eq_of_beq q))
 ·obtain ⟨q1, q2, _⟩ := and3 h1
  exact .inr (.inr ⟨LawfulBEq.eq_of_beq q1, (or_inv q2).imp LawfulBEq.eq_of_beq LawfulBEq.eq_of_beq⟩)
theorem outer_cell {y : Str} (hv : VarsR ι h F.env ρ) (hout : Outer F.env.scope.names y) (hy : tab[j]? = some y) :
  E3 fun c o vo => N4 (F.env.cells.lookup y = some c) (h.get? c = some o) (o.data = .cell vo) (∀ v, alook ρ j = some v → ∃ rv, vo = some rv ∧ VR ι h v rv) := by
 obtain ⟨_, _, hvo⟩ := hv
 have := hvo j y hy
 rcases hout with q | q <;> (rw [show F.env.kindOf y = _ from q] at this; obtain ⟨c, o, vo, h1, h2, h3, h4⟩ := this; exact ⟨c, o, vo, h1, h2, h3, h4⟩)
theorem inner_vars {scope : Scope} {cl : List (Str × Addr)} {Lc : Addr} {cap : List Nat} {mm : Str → Option Value} (c1 : chkCap scope F.env.scope.names cap = true) (ok : FrmOk C F) (hA : At C F ι σ ρ s.heap) (hcl1 : ∀ y c, cl.lookup y = some c → F.env.cells.lookup y = some c)
  (hcl2 : ∀ y ∈ scope.names, y.2 = .free → (cl.lookup y.1).isSome = true) (S : Stp [] ι s ι' s') (hns : s'.heap.Ns Lc mm) : VarsR ι' s'.heap (compEnvC scope cl Lc F.env) (capr ρ cap) := by
 obtain ⟨k1, k2, k3⟩ := and3 c1
 refine ⟨_, hns, fun j y hy => ?_⟩
 have hk : (compEnvC scope cl Lc F.env).kindOf y = (scope.names.lookup y).map fun k => if k == .free && F.env.scope.names.lookup y == some .cell then .cell else k := by
  show List.lookup y (relabel scope F.env).names = _
  rw [relabel_inner ok]; exact lookup_inner
 rw [hk]
 cases hsy : scope.names.lookup y with
 | none => trivial
 | some k =>
  have hmem := lookup_memS hsy
  rcases (cap_names k2 hmem).1 with rfl | rfl | ⟨rfl, hout⟩
  ·intro v hv
   have := List.all_eq_true.mp k3 j (capr_some hv).1
   rw [hy] at this
   cases hsy.symm.trans (LawfulBEq.eq_of_beq this)
  ·trivial
  ·obtain ⟨c, o, vo, g1, g2, g3, g4⟩ := outer_cell hA.vars hout hy
   obtain ⟨c', hc'⟩ := Option.isSome_iff_exists.mp (hcl2 _ hmem rfl)
   cases g1.symm.trans (hcl1 _ _ hc')
   have fin : ∃ c o vo, cl.lookup y = some c ∧ s'.heap.get? c = some o ∧ o.data = .cell vo ∧ ∀ v, alook (capr ρ cap) j = some v → ∃ rv, vo = some rv ∧ VR ι' s'.heap v rv :=
    ⟨c, o, vo, hc', S.heap.keep _ _ (hA.rel.offCell g2 g3) List.not_mem_nil g2, g3, fun v hv => (g4 v (capr_some hv).2).imp fun rv q => ⟨q.1, q.2.step hA.rel .nil S.heap⟩⟩
   have e : ((some NameKind.free).map fun k => if k == .free && F.env.scope.names.lookup y == some .cell then NameKind.cell else k) = some .cell ∨ ((some NameKind.free).map fun k => if k == .free && F.env.scope.names.lookup y == some .cell then NameKind.cell else k) = some .free := by
    show some (if (F.env.scope.names.lookup y == some .cell) = true then NameKind.cell else .free) = _ ∨ some (if (F.env.scope.names.lookup y == some .cell) = true then NameKind.cell else .free) = _
    cases F.env.scope.names.lookup y == some .cell
    ·exact .inr rfl
    ·exact .inl rfl
   rcases e with e | e <;> rw [e] <;> exact fin
theorem comp_core {e : Expr} {scope : Scope} {gens : List Comprehension} {pos : Pos} {newAcc : Sem Value} {use : Option (Value → Sem Unit)} {Q : Value → Shared → Prop} {emc : Env → Addr → Sem Unit} {cap : List Nat} {t : Tg} {ts : List Tg} {i : IE} {is : List IE} {f : List IE} {fs : List (List IE)} {dep : MH → Prop} {em : List (Nat × MV) → MH → MH → Prop} {mo : MO}
  (hE : ∀ acc env, CompE e gens (.ref acc) env (emc env acc)) (c1 : chkCap scope F.env.scope.names cap = true) (c2 : chkgs F.env.scope.names (inner scope.names F.env.scope.names) (t :: ts) (i :: is) (f :: fs) gens = true)
  (ok : FrmOk C F) (r : Room A n) (hA : At C F ι σ ρ s.heap) (hi : ItEv C n i ρ σ xs dep σ₁) (hnew : ∀ ι s, Rel C ι σ₁ s.heap → wpAny (model C.prog C.w) A newAcc (Post C ι s (.loc σ₁.length) (σ₁ ++ [mo])) (fun _ _ => False) s)
  (hem : ∀ (Fc : Frm) (acc : Addr), Fc.env.scope.names = inner scope.names F.env.scope.names → FrmOk C Fc → ∀ ρ σ σ', em ρ σ σ' → EmitR C n Fc acc σ₁.length (emc Fc.env acc) ρ σ σ')
  (hcl : CL C n em ts is fs t f dep xs (capr ρ cap) (σ₁ ++ [mo]) ρ' σ')
  (hP : ∀ s' ι' acc Lc mm, At C F ι' σ' ρ s'.heap → ι'[σ₁.length]? = some acc → Stp [] ι s ι' s' → s'.heap.Ns Lc mm → s.heap.objs.size ≤ Lc → Lc ∉ ι' → compPost (model C.prog C.w) A (fun _ _ => False) use Q (.ref acc) Lc (.ok .next) s') :
  wpAny (model C.prog C.w) A (comprehension e scope F.env pos newAcc false (firstIter gens F.env) use) Q (fun _ _ => False) s := by
 obtain ⟨te, ie, fx, gs, rfl, e1, e2, e3, e4, e5, e6⟩ := chkgs_inv c2
 clear c2
 obtain ⟨k1, k2, _⟩ := and3 c1
 replace k1 : scope.kind = .function := LawfulBEq.eq_of_beq k1
 obtain ⟨cl, hclos, hcl1, hcl2⟩ := closure_R (scope := scope) (env := F.env) fun y hy hyf => by
  obtain ⟨y, k⟩ := y
  obtain ⟨q1, _, q3⟩ := cap_names k2 hy
  cases (hyf : k = _)
  obtain ⟨j, hj⟩ := q3 rfl
  rcases q1 with q | q | q
  ·cases q
  ·cases q
  ·obtain ⟨c, _, _, h1, _⟩ := outer_cell hA.vars q.2 hj
   exact ⟨c, h1⟩
 have hcell : ∀ y ∈ scope.names, y.2 ≠ .cell := fun y hy q => by
  obtain ⟨y, k⟩ := y
  cases (q : k = _)
  rcases (cap_names k2 hy).1 with h | h | h
  ·cases h
  ·cases h
  ·cases h.1
 refine wpAny_comprehension_free (g := ⟨te, ie, fx, 0⟩) (gs := gs) (hE 0 F.env).cls (fun x => folded_no e4) hclos k1 (fun y hy z => z ▸ (cap_names k2 hy).2) ?_
 refine wpAny_mono (hi F ie A ι s e3 ok r hA) (fun rv s₁ p => wpAny_mono p (fun it s₂ p => ?_) fun _ _ z => z) fun _ _ z => z
 obtain ⟨ι₂, ita, its, P, rfl, R₂, S₂, W, P₂, hits⟩ := p
 refine wpAny_mono (hnew ι₂ s₂ R₂) (fun acc s₃ p => ?_) fun _ _ z => z
 obtain ⟨ι₃, R₃, V₃, S₃⟩ := p
 obtain ⟨ad, rfl, had⟩ := V₃
 refine wpAny_newFunctionEnv hcell (fun _ z => nomatch z) (fun h₁ hns₁ hsb₁ => ?_) k1
 have hk₁ : ∀ b o, s₃.heap.get? b = some o → h₁.get? b = some o := fun b o e => hsb₁.extBut b o (Nat.ne_of_lt (Heap.lt_size e)) (Heap.get?_push_of_some _ e)
 have hz₁ : s₃.heap.objs.size ≤ h₁.objs.size := by rw [hsb₁.1, Heap.size_push]; exact Nat.le_succ _
 generalize hLc : s₃.heap.objs.size = Lc at hns₁ hsb₁ ⊢
 obtain ⟨s₄, hs₄⟩ : ∃ s₄ : Shared, s₄ = { s₃ with heap := h₁, toks := s₃.toks + ([] : List (Str × Value)).length } := ⟨_, rfl⟩
 have S₄ : Stp [] ι₃ s₃ ι₃ s₄ := by rw [hs₄]; exact ⟨.same hk₁ hz₁, rfl, rfl⟩
 have R₄ : Rel C ι₃ (σ₁ ++ [mo]) s₄.heap := by rw [hs₄]; exact R₃.same hk₁ hz₁
 replace hns₁ : s₄.heap.Ns Lc (fun x => ([] : List (Str × Value)).reverse.lookup x) := by rw [hs₄]; exact hns₁
 rw [← hs₄]
 clear hs₄ hsb₁ hk₁ hz₁
 have S₀₄ : Stp [] ι s ι₃ s₄ := S₂.trans (S₃.trans S₄)
 have hFn : (compEnvC scope cl Lc F.env).scope.names = inner scope.names F.env.scope.names := relabel_inner ok
 have okc : FrmOk C ⟨compEnvC scope cl Lc F.env, [Lc], false⟩ := {
  kind := k1
  globals := ok.globals
  builtins := ok.builtins
  locals := .head _
  above := fun a ha => by rw [List.mem_singleton.mp ha, ← hLc]; exact R₃.size
  cell := fun h => nomatch h
  cells := fun h => nomatch h }
 have hLi : Lc ∉ ι₃ := fun q => absurd (R₃.lt q) (by rw [hLc]; exact Nat.lt_irrefl _)
 have A₄ : At C ⟨compEnvC scope cl Lc F.env, [Lc], false⟩ ι₃ (σ₁ ++ [mo]) (capr ρ cap) s₄.heap := ⟨R₄, inner_vars c1 ok hA hcl1 hcl2 S₀₄ hns₁, fun b hb => by
  rw [List.mem_singleton.mp hb]
  obtain ⟨o, es, ep, q1, q2, _⟩ := hns₁
  exact ⟨hLi, o, q1, .inl ⟨es, ep, q2⟩⟩⟩
 have P₄ : P 0 ι₃ s₄.heap := W.stable _ _ _ _ _ _ (W.stable _ _ _ _ _ _ P₂ (fun _ _ => List.not_mem_nil) S₃.heap (S₃.heap.imm R₂ .nil)) (fun _ _ => List.not_mem_nil) S₄.heap (S₄.heap.imm R₃ .nil)
 have hDs : ∀ b ∈ its, b ∉ [Lc] := fun b hb q => by
  obtain ⟨_, ⟨o, vs, q1, _⟩, _⟩ := W.iok _ _ _ P₂ b hb
  exact absurd (Heap.lt_size q1) (Nat.not_lt.mpr (by rw [List.mem_singleton.mp q, ← hLc]; exact S₃.heap.size))
 have hsL : s.heap.objs.size ≤ Lc := by rw [← hLc]; exact Nat.le_trans S₂.heap.size S₃.heap.size
 have loop : codeAny (model C.prog C.w) A (.compLoop e 0 (.ref ita) (.ref ad) (compEnvC scope cl Lc F.env)) (compPost (model C.prog C.w) A (fun _ _ => False) use Q (.ref ad) Lc) s₄ := by
  refine comp_R (hE ad _) (hem _ ad hFn okc) okc r ts is fs 0 t f te ie fx gs dep xs ρ' σ' ita its P ι₃ s₄ _ rfl (by rw [hFn]; exact e1) (by rw [hFn]; exact e2) (by rw [hFn]; exact e5) (by rw [hFn]; exact e6) W hDs (fun s₅ ι₅ A₅ S₅ => ?_) _ s₄ ⟨0, ι₃, _, _, rfl, P₄, A₄, .refl .., had, Nat.zero_le _, hcl⟩
  have S₅' : Stp [] ι s ι₅ s₅ := ((S₀₄.any (D' := its ++ [Lc])).trans S₅).clean fun a ha => .inr ((List.mem_append.mp ha).elim (hits a) fun q => by rw [List.mem_singleton.mp q]; exact hsL)
  obtain ⟨m5, q5, _⟩ := A₅.vars
  exact hP s₅ ι₅ ad Lc m5 (hA.step ok A₅.rel S₅'.heap) (S₅.heap.get? had) S₅' q5 hsL (A₅.dok Lc (.head _)).1
 exact start_R (hE ad _) rfl rfl loop (W.self A 0 ι₃ s₄ _ P₄ loop)
end
end Mine
namespace Mine
open PySem PySem.W PyProof.Rows PySem.Calls PySem.Spec PySem.SeqAt
section
variable {C : Cx} {n : Nat} {A : Around} {F : Frm} {ι ι' : List Addr} {ρ ρ' ρ₁ ρ₂ : List (Nat × MV)} {σ σ' σ₁ σ₂ σ₃ σ₄ : MH} {s s' : Shared} {j a m ep : Nat} {v v₁ v₂ v₃ : MV} {xs vs : List MV} {es : List (MV × MV)} {rv : Value} {x : Str} {h h' : Heap}
variable {cap : List Nat} {t : Tg} {ts : List Tg} {i : IE} {is : List IE} {f : List IE} {fs : List (List IE)} {dep : MH → Prop} {elt : IE}
noncomputable def EmL (C : Cx) (n : Nat) (elt : IE) (a : Nat) (ρ : List (Nat × MV)) (σ σ' : MH) : Prop :=
 ∃ v σ₁ ys, Ev C n elt ρ σ v σ₁ ∧ σ₁[a]? = some (.list ys) ∧ ys.length < sizeLine ∧ σ' = σ₁.set a (.list (ys ++ [v]))
theorem firstAsync_no {out ns : Names} {gens : List Comprehension} (c2 : chkgs out ns (t :: ts) (i :: is) (f :: fs) gens = true) : firstAsync gens = false := by
 obtain ⟨_, _, _, _, rfl, _⟩ := chkgs_inv c2
 rfl
theorem emL_R {eltx : Expr} {Fc : Frm} {acc : Addr} (hc : chk Fc.env.scope.names elt eltx = true) (ok : FrmOk C Fc) : ∀ ρ σ σ', EmL C n elt a ρ σ σ' → EmitR C n Fc acc a (do let _ ← call (.builtin "list.append") [.ref acc, ← eval eltx Fc.env]) ρ σ σ' := by
 rintro ρ σ σ' ⟨v, σ₁, ys, h1, h2, h3, rfl⟩ A ι s r hA ha
 refine wpAny_bind (wpAny_mono (h1 Fc eltx A ι s hc ok r hA) (fun rv s₁ p => ?_) fun _ _ z => z)
 obtain ⟨ι₁, R₁, V₁, S₁⟩ := p
 refine wpAny_bind (wpAny_mono (CallEv.append h2 h3 A ι₁ s₁ [.ref acc, rv] r R₁ (.cons ⟨acc, rfl, S₁.heap.get? ha⟩ (.cons V₁ .nil))) (fun _ s₂ p => wpAny_pure ?_) fun _ _ z => z)
 obtain ⟨ι₂, R₂, _, S₂⟩ := p
 exact ⟨ι₂, R₂, S₁.trans S₂⟩
theorem newL {σ₁ : MH} : ∀ (ι : List Addr) (s : Shared), Rel C ι σ₁ s.heap → wpAny (model C.prog C.w) A (newList []) (Post C ι s (.loc σ₁.length) (σ₁ ++ [.list []])) (fun _ _ => False) s := fun ι s R =>
 wpAny_newList (post_list R .nil (Nat.zero_le _))
theorem touch_at {Lc : Addr} {mm : Str → Option Value} (hns : s.heap.Ns Lc mm) (hs' : Heap.SameBut Lc s.heap h') (hLi : Lc ∉ ι) : Touch [Lc] s { s with heap := h' } ∧ DOk [Lc] ι s.heap :=
 ⟨⟨fun b o hb e => (hs'.2 b fun q => hb (q ▸ .head _)).trans e, Nat.le_of_eq hs'.1.symm, rfl, rfl⟩, fun b hb => by
  rw [List.mem_singleton.mp hb]
  obtain ⟨o, es, ep, q1, q2, _⟩ := hns
  exact ⟨hLi, o, q1, .inl ⟨es, ep, q2⟩⟩⟩
theorem comp_inv {cap : List Nat} {e : Expr} (hc : chk F.env.scope.names (.comp cap elt (t :: ts) (i :: is) (f :: fs)) e = true) :
  Y4 (fun x gens scope pos => e = .ListComp x gens scope pos) fun x gens scope _ => N3 (chkCap scope F.env.scope.names cap = true) (chk (inner scope.names F.env.scope.names) elt x = true) (chkgs F.env.scope.names (inner scope.names F.env.scope.names) (t :: ts) (i :: is) (f :: fs) gens = true) := by
 replace hc := onListComp_inv hc; obtain ⟨x, gens, scope, pos, rfl, hc⟩ := hc
 obtain ⟨c1, c2, c3, c4, c5⟩ := and5 hc
 exact ⟨x, gens, scope, pos, rfl, c1, c2, congr (congrArg and (congr (congrArg and c3) c4)) c5⟩
theorem Ev.compL (hi : ItEv C n i ρ σ xs dep σ₁) (hcl : CL C n (EmL C n elt σ₁.length) ts is fs t f dep xs (capr ρ cap) (σ₁ ++ [.list []]) ρ' σ') : Ev C n (.comp cap elt (t :: ts) (i :: is) (f :: fs)) ρ σ (.loc σ₁.length) σ' := by
 intro F e A ι s hc ok r hA
 replace hc := comp_inv hc; obtain ⟨x, gens, scope, pos, rfl, c1, c2, c3⟩ := hc
 rw [eval_ListComp, firstAsync_no c3]
 refine comp_core (emc := fun env acc => do let _ ← PySem.call (.builtin "list.append") [.ref acc, ← eval x env]) (fun acc env => compE_list) c1 c3 ok r hA hi newL (fun Fc acc hn okc => emL_R (by rw [hn]; exact c2) okc) hcl fun s₁ ι₁ acc Lc mm A₁ hacc S₁ hns hz hLi => ⟨mm, hns, fun h' hs' => ?_⟩
 obtain ⟨T, hD⟩ := touch_at hns hs' hLi
 exact ⟨ι₁, A₁.rel.dirty hD T.keep T.size (fun b hb => by rw [List.mem_singleton.mp hb]; exact Nat.le_trans hA.rel.size hz), ⟨acc, rfl, hacc⟩,
  Stp.clean (D := [Lc]) (Stp.trans S₁.any ⟨T.step, rfl, rfl⟩) fun b hb => .inr (by rw [List.mem_singleton.mp hb]; exact hz)⟩
theorem X1.setc {q : Nat} (hi : ItEv C n i ρ σ xs dep σ₁) (hcl : CL C n (EmL C n elt σ₁.length) ts is fs t f dep xs (capr ρ cap) (σ₁ ++ [.list []]) ρ' σ') : X1 C n (.setc q (.comp cap elt (t :: ts) (i :: is) (f :: fs))) ρ σ .next (aset ρ q (.loc σ₁.length)) σ' := by
 intro F st A ι s hc ok own r hA
 replace hc := onSAssign_inv hc; obtain ⟨tgs, x, pos, rfl, hc⟩ := hc
 replace hc := on1_inv hc; obtain ⟨tg, rfl, hc⟩ := hc
 obtain ⟨c1, c2, _⟩ := and3 hc
 clear hc
 replace c1 := chkN_inv c1; obtain ⟨id, p, rfl, g1, g2⟩ := c1
 have gk := (isOwn_kind g2).imp_right fun z => (⟨own, z⟩ : F.own = true ∧ _)
 have hev := Ev.compL hi hcl F x A ι s c2 ok r hA
 replace c2 := comp_inv c2; obtain ⟨y, gens, scope, lp, rfl, d1, d2, d3⟩ := c2
 obtain ⟨b, hb⟩ : ∃ b, swapsWith (.ListComp y gens scope lp) (some (.Name id p)) pos.line F.env = pure b := ⟨_, rfl⟩
 cases b with
 | false =>
  refine wpAny_Assign_Name (wpAny_mono hev (fun rv s₁ p => ?_) fun _ _ z => z) hb
  obtain ⟨ι₁, R₁, V₁, S₁⟩ := p
  exact wpAny_mono (store_R g1 gk ok (hA.step ok R₁ S₁.heap) V₁) (fun _ s₂ p => ⟨ι₁, p.1, rfl, S₁.any.trans p.2⟩) fun _ _ z => z
 | true =>
  clear hev
  rw [exec_Assign_Name_used _ _ _ _ hb]
  refine wpAny_bind (wpAny_standAt (wpAny_bind ?_))
  show wpAny _ A (do let _ ← comprehension (.ListComp y gens scope lp) scope F.env _ (newList []) (firstAsync gens) (firstIter gens F.env) (some (assign (.Name id p) F.env))) _ _ s
  rw [firstAsync_no d3]
  refine wpAny_bind (wpAny_mono (comp_core (Q := fun _ s' => PostX C F ι s .next (aset ρ q (.loc σ₁.length)) σ' .next s') (emc := fun env acc => do let _ ← call (.builtin "list.append") [.ref acc, ← eval y env]) (fun acc env => compE_list) d1 d3 ok r hA hi newL (fun Fc acc hn okc => emL_R (by rw [hn]; exact d2) okc) hcl fun s₁ ι₁ acc Lc mm A₁ hacc S₁ hns hz hLi => ?_) (fun _ s' hq => wpAny_pure (wpAny_pure hq)) fun _ _ z => z)
  refine wpAny_assign_Name (wpAny_mono (store_R g1 gk ok A₁ (v := .loc σ₁.length) ⟨acc, rfl, hacc⟩) (fun _ s₂ p => ?_) fun _ _ z => z)
  obtain ⟨A₂, S₂⟩ := p
  have hLD : Lc ∉ F.D := fun z => by
   obtain ⟨_, o, h1, _⟩ := hA.dok Lc z
   exact absurd (Heap.lt_size h1) (Nat.not_lt.mpr hz)
  have hns₂ : s₂.heap.Ns Lc mm := hns.at' fun o e => S₂.heap.keep _ _ hLi hLD e
  refine ⟨mm, hns₂, fun h' hs' => ?_⟩
  obtain ⟨T, hD⟩ := touch_at hns₂ hs' hLi
  obtain ⟨o, es, ep, q1, q2, _⟩ := hns₂
  have A₃ : At C F ι₁ σ' (aset ρ q (.loc σ₁.length)) h' := A₂.touchG (its := [Lc]) (s' := { s₂ with heap := h' }) hD (fun c hc o' vo h1 h2 => by
    rw [List.mem_singleton.mp hc, q1] at h1; cases h1; rw [q2] at h2; cases h2) (fun b hb => by rw [List.mem_singleton.mp hb]; exact Nat.le_trans hA.rel.size hz) T ok (fun b hb => by rw [List.mem_singleton.mp hb]; exact hLD)
  have S₃ : Stp (Lc :: F.D) ι s ι₁ { s₂ with heap := h' } := (S₁.any.trans (S₂.weak fun a ha => List.mem_cons_of_mem _ ha)).trans (Stp.weak ⟨T.step, rfl, rfl⟩ fun a ha => by rw [List.mem_singleton.mp ha]; exact .head _)
  exact ⟨ι₁, A₃, rfl, S₃.clean fun b hb => (List.mem_cons.mp hb).elim (fun z => .inr (z ▸ hz)) .inl⟩
end
end Mine
namespace Mine
open PySem PySem.W PyProof.Rows PySem.Calls PySem.Spec PySem.SeqAt
noncomputable def rn {α : Type} (c : Nat → Nat → Bool) (n : Nat) : KasT α → (α → Prop) → Prop
 | .ret a, Q => Q a
 | .ask i j k, Q => i < n ∧ j < n ∧ rn c n (k (c i j)) Q
theorem rn_bind {α β : Type} {c : Nat → Nat → Bool} {n : Nat} {f : α → KasT β} {Q : β → Prop} : ∀ (t : KasT α), rn c n t (fun a => rn c n (f a) Q) → rn c n (t.bind f) Q
 | .ret _, h => h
 | .ask i j k, h => ⟨h.1, h.2.1, rn_bind (k (c i j)) h.2.2⟩
theorem rn_mono {α : Type} {c : Nat → Nat → Bool} {n : Nat} {Q Q' : α → Prop} (hq : ∀ a, Q a → Q' a) : ∀ (t : KasT α), rn c n t Q → rn c n t Q'
 | .ret _, h => hq _ h
 | .ask i j k, h => ⟨h.1, h.2.1, rn_mono hq (k (c i j)) h.2.2⟩
structure Ord (c : Nat → Nat → Bool) (n : Nat) : Prop where
 irr : ∀ a, a < n → c a a = false
 tr : ∀ a b d, a < n → b < n → d < n → c a b = true → c b d = true → c a d = true
 tot : ∀ a b, a < n → b < n → a ≠ b → c a b = true ∨ c b a = true
section
variable {c : Nat → Nat → Bool} {n : Nat}
noncomputable abbrev gt (p : Array Nat) (i : Nat) : Nat := p.getD i 0
structure PermN (p : Array Nat) (n : Nat) : Prop where
 perm : p.Perm (List.toArray (List.range n))
 pos : 0 < n
theorem PermN.size {p : Array Nat} (h : PermN p n) : p.size = n := by have := h.perm.size_eq; simpa using this
theorem PermN.lt {p : Array Nat} (h : PermN p n) (i : Nat) : gt p i < n := by
 unfold gt Array.getD
 split
 ·rename_i hi
  exact List.mem_range.mp (List.mem_toArray.mp (h.perm.mem_iff.mp (Array.getElem_mem hi)))
 ·exact h.pos
theorem PermN.inj {p : Array Nat} (h : PermN p n) {i j : Nat} (hi : i < n) (hj : j < n) (e : gt p i = gt p j) : i = j := by
 have hi' : i < p.size := by rw [h.size]; exact hi
 have hj' : j < p.size := by rw [h.size]; exact hj
 have hn : p.toList.Nodup := (Array.perm_iff_toList_perm.mp h.perm).symm.nodup (by simpa using List.nodup_range)
 have e' : p.toList[i]'(by simpa using hi') = p.toList[j]'(by simpa using hj') := by simpa [gt, Array.getD, hi', hj'] using e
 exact (List.getElem_inj (h₀ := by simpa using hi') (h₁ := by simpa using hj') hn).mp e'
theorem gt_rev {p : Array Nat} {m : Nat} (hm : m ≤ p.size) (k : Nat) : gt (kas_rev p 0 m) k = if k < m then gt p (m - 1 - k) else gt p k := by
 have e := getElem?_mirror_all (xs := p) (i := 0) hm k
 unfold gt kas_rev
 simp only [Array.getD_eq_getD_getElem?]
 rw [e]
 by_cases h : k < m <;> simp [h]
theorem gt_bub {p : Array Nat} {k l : Nat} (hk : k < p.size) (hl : l ≤ k) (t : Nat) : gt (bubble p k (k - l)) t = if t = l then gt p k else if l < t ∧ t ≤ k then gt p (t - 1) else gt p t := by
 have e := getElem?_bubble hk (k - l) (by lia) t
 have e1 : k - (k - l) = l := by lia
 rw [e1] at e
 unfold gt
 simp only [Array.getD_eq_getD_getElem?]
 rw [e]
 by_cases h : t = l
 ·simp [h]
 ·by_cases h2 : l < t ∧ t ≤ k <;> simp [h, h2]
variable (O : Ord c n)
include O
theorem Ord.asym {a b : Nat} (ha : a < n) (hb : b < n) (h : c a b = true) : c b a = false := by
 cases hba : c b a with
 | false => rfl
 | true => have := O.tr a b a ha hb ha h hba; rw [O.irr a ha] at this; cases this
theorem Ord.le_trans {a b d : Nat} (ha : a < n) (hb : b < n) (hd : d < n) (h1 : c b a = false) (h2 : c d b = false) : c d a = false := by
 cases h : c d a with
 | false => rfl
 | true =>
  by_cases e : a = b
  ·subst e; rw [h] at h2; cases h2
  ·rcases O.tot a b ha hb e with q | q
   ·rw [O.tr d a b hd ha hb h q] at h2; cases h2
   ·rw [q] at h1; cases h1
theorem Ord.lt_le {a b d : Nat} (ha : a < n) (hb : b < n) (hd : d < n) (h1 : c a b = true) (h2 : c d b = false) : c a d = true := by
 by_cases e : b = d
 ·subst e; exact h1
 ·rcases O.tot b d hb hd e with q | q
  ·exact O.tr a b d ha hb hd h1 q
  ·rw [q] at h2; cases h2
omit O
noncomputable def Srt (c : Nat → Nat → Bool) (p : Array Nat) (k : Nat) : Prop := ∀ i j, i ≤ j → j < k → c (gt p j) (gt p i) = false
include O
theorem Srt.succ {p : Array Nat} (P : PermN p n) {k : Nat} (hs : Srt c p k) (h1 : 1 ≤ k) (hk : k < n) (h : c (gt p k) (gt p (k - 1)) = false) : Srt c p (k + 1) := by
 intro i j hij hj
 by_cases hjk : j = k
 ·subst hjk
  by_cases hi : i = j
  ·subst hi; exact O.irr _ (P.lt _)
  ·exact O.le_trans (P.lt _) (P.lt _) (P.lt _) (hs i (j - 1) (by lia) (by lia)) h
 ·exact hs i j hij (by lia)
theorem asc_rn {p : Array Nat} (P : PermN p n) {nrem : Nat} (hn : nrem ≤ n) : ∀ (f m : Nat), Srt c p m → 1 ≤ m → m + f = nrem → rn c n (kas_asc p f m) (fun m' => m ≤ m' ∧ m' ≤ nrem ∧ Srt c p m' ∧ (m' < nrem → c (gt p m') (gt p (m' - 1)) = true))
 | 0, m, hs, h1, hf => ⟨Nat.le_refl _, by lia, hs, fun h => by lia⟩
 | f + 1, m, hs, h1, hf => by
  refine ⟨P.lt _, P.lt _, ?_⟩
  cases h : c (gt p m) (gt p (m - 1)) with
  | true =>
   simp only [gt] at h
   simp only [h, if_true]
   exact ⟨Nat.le_refl _, by lia, hs, fun _ => h⟩
  | false =>
   have h' := h
   simp only [gt] at h
   simp only [h]
   rw [if_neg Bool.false_ne_true]
   exact rn_mono (fun a q => ⟨by lia, q.2⟩) _ (asc_rn P hn f (m + 1) (Srt.succ O P hs h1 (by lia) h') (by lia) (by lia))
theorem desc_rn {p : Array Nat} (P : PermN p n) {nrem : Nat} (hn : nrem ≤ n) : ∀ (f m : Nat), (∀ i j, i < j → j < m → c (gt p j) (gt p i) = true) → 2 ≤ m → m + f = nrem →
  rn c n (kas_desc f p m 0) (fun r => r.1 = p ∧ r.2.2 = 0 ∧ (∀ i j, i < j → j < r.2.1 → c (gt p j) (gt p i) = true) ∧ m ≤ r.2.1 ∧ r.2.1 ≤ nrem)
 | 0, m, hs, h1, hf => ⟨rfl, rfl, hs, Nat.le_refl _, by show m ≤ nrem; lia⟩
 | f + 1, m, hs, h1, hf => by
  refine ⟨P.lt _, P.lt _, ?_⟩
  cases h : c (gt p m) (gt p (m - 1)) with
  | true =>
   have h' := h
   simp only [gt] at h
   simp only [h, if_true]
   rw [if_neg (by lia)]
   refine rn_mono (fun a q => ⟨q.1, q.2.1, q.2.2.1, by lia, q.2.2.2.2⟩) _ (desc_rn P hn f (m + 1) (fun i j hij hj => ?_) (by lia) (by lia))
   by_cases hjm : j = m
   ·subst hjm
    by_cases hi : i = j - 1
    ·subst hi; exact h'
    ·exact O.tr _ _ _ (P.lt _) (P.lt _) (P.lt _) h' (hs i (j - 1) (by lia) (by lia))
   ·exact hs i j hij (by lia)
  | false =>
   have h' := h
   simp only [gt] at h
   simp only [h]
   rw [if_neg Bool.false_ne_true]
   refine ⟨P.lt _, P.lt _, ?_⟩
   have hne : gt p m ≠ gt p (m - 1) := fun e => by have := P.inj (by lia) (by lia) e; lia
   have h2 : c (gt p (m - 1)) (gt p m) = true := by
    rcases O.tot _ _ (P.lt _) (P.lt _) hne with q | q
    ·rw [h'] at q; cases q
    ·exact q
   simp only [gt] at h2
   simp only [h2, if_true]
   exact ⟨rfl, rfl, hs, Nat.le_refl _, by show m ≤ nrem; lia⟩
omit O
theorem PermN.rev {p : Array Nat} (P : PermN p n) (i j : Nat) : PermN (kas_rev p i j) n := ⟨(mirror_perm _ _ _ _).trans P.perm, P.pos⟩
include O
theorem count_rn (h2 : 2 ≤ n) {p : Array Nat} (P : PermN p n) : rn c n (kas_count n p) (fun r => PermN r.2 n ∧ Srt c r.2 r.1 ∧ 1 ≤ r.1 ∧ r.1 ≤ n) := by
 unfold kas_count
 refine rn_bind _ (rn_mono (fun m hm => ?_) _ (asc_rn O P (Nat.le_refl n) (n - 1) 1 (fun i j hij hj => by
  have : i = 0 ∧ j = 0 := by lia
  rw [this.1, this.2]; exact O.irr _ (P.lt _)) (Nat.le_refl _) (by lia)))
 obtain ⟨m1, m2, m3, m4⟩ := hm
 by_cases hmn : m = n
 ·subst hmn
  simp only [beq_self_eq_true, if_true]
  exact ⟨P, m3, m1, Nat.le_refl _⟩
 ·rw [if_neg (by simpa using hmn)]
  by_cases hm1 : m > 1
  ·rw [if_pos hm1]
   refine ⟨P.lt _, P.lt _, ?_⟩
   have hne : gt p 0 ≠ gt p (m - 1) := fun e => by have := P.inj (by lia) (by lia) e; lia
   have h2 : c (gt p 0) (gt p (m - 1)) = true := by
    rcases O.tot _ _ (P.lt _) (P.lt _) hne with q | q
    ·exact q
    ·rw [m3 0 (m - 1) (by lia) (by lia)] at q; cases q
   simp only [gt] at h2
   simp only [h2, if_true]
   exact ⟨P, m3, m1, m2⟩
  ·rw [if_neg hm1]
   have : m = 1 := by lia
   subst this
   unfold kas_descPart
   refine rn_bind _ (rn_mono (fun r hr => ?_) _ (desc_rn O P (Nat.le_refl n) (n - (1 + 1)) (1 + 1) (fun i j hij hj => by
    have : i = 0 ∧ j = 1 := by lia
    rw [this.1, this.2]; exact m4 (by lia)) (Nat.le_refl _) (by lia)))
   obtain ⟨r1, r2, r3, r4, r5⟩ := hr
   obtain ⟨p', m', q'⟩ := r
   simp only at r1 r2 r3 r4 r5
   subst r1; subst r2
   simp only
   rw [if_neg (by lia)]
   unfold kas_tail3
   have hz : m' ≤ p'.size := by rw [P.size]; exact r5
   refine rn_bind _ (rn_mono (fun k hk => ?_) _ (asc_rn O (P.rev 0 m') (Nat.le_refl n) (n - m') m' (fun i j hij hj => ?_) (by lia) (by lia)))
   ·exact ⟨P.rev 0 m', hk.2.2.1, by lia, hk.2.1⟩
   ·rw [gt_rev hz, gt_rev hz, if_pos hj, if_pos (by lia)]
    by_cases e : i = j
    ·subst e; exact O.irr _ (P.lt _)
    ·exact O.asym (P.lt _) (P.lt _) (r3 (m' - 1 - j) (m' - 1 - i) (by lia) (by lia))
theorem place_rn {p : Array Nat} (P : PermN p n) {k : Nat} (hk : k < n) (hs : Srt c p k) : ∀ (f l r : Nat), l ≤ r → r ≤ k → r - l ≤ f → (∀ i, i < l → c (gt p k) (gt p i) = false) → (∀ i, r ≤ i → i < k → c (gt p k) (gt p i) = true) →
  rn c n (kas_place p k f l r) (fun l' => l' ≤ k ∧ (∀ i, i < l' → c (gt p k) (gt p i) = false) ∧ ∀ i, l' ≤ i → i < k → c (gt p k) (gt p i) = true)
 | 0, l, r, h1, h2, h3, h4, h5 => ⟨by lia, h4, fun i hi hik => h5 i (by lia) hik⟩
 | f + 1, l, r, h1, h2, h3, h4, h5 => by
  unfold kas_place
  by_cases hlr : l ≥ r
  ·rw [if_pos hlr]; exact ⟨by lia, h4, fun i hi hik => h5 i (by lia) hik⟩
  ·rw [if_neg hlr]
   have hm : (l + r) / 2 < k := by lia
   refine ⟨P.lt _, P.lt _, ?_⟩
   cases h : c (gt p k) (gt p ((l + r) / 2)) with
   | true =>
    have h' := h
    simp only [gt] at h
    simp only [h, if_true]
    exact place_rn P hk hs f l ((l + r) / 2) (by lia) (by lia) (by lia) h4 fun i hi hik => O.lt_le (P.lt _) (P.lt _) (P.lt _) h' (hs _ _ hi hik)
   | false =>
    have h' := h
    simp only [gt] at h
    simp only [h]
    rw [if_neg Bool.false_ne_true]
    refine place_rn P hk hs f ((l + r) / 2 + 1) r (by lia) h2 (by lia) (fun i hi => ?_) h5
    exact O.le_trans (P.lt _) (P.lt _) (P.lt _) (hs i _ (by lia) hm) h'
theorem bin_rn : ∀ (f : Nat) (p : Array Nat) (k : Nat), PermN p n → Srt c p k → 1 ≤ k → k + f = n → rn c n (kas_bin f p k) (fun p' => PermN p' n ∧ Srt c p' n)
 | 0, p, k, P, hs, h1, hf => ⟨P, by rw [show n = k by lia]; exact hs⟩
 | f + 1, p, k, P, hs, h1, hf => by
  unfold kas_bin
  have hk : k < n := by lia
  refine rn_bind _ (rn_mono (fun l hl => ?_) _ (place_rn O P hk hs k 0 k (Nat.zero_le _) (Nat.le_refl _) (by lia) (fun i hi => by lia) fun i hi hik => by lia))
  obtain ⟨l1, l2, l3⟩ := hl
  refine bin_rn f _ (k + 1) ⟨(bubble_perm _ _ _).trans P.perm, P.pos⟩ ?_ (by lia) (by lia)
  have hz : k < p.size := by rw [P.size]; exact hk
  intro i j hij hj
  rw [gt_bub hz l1, gt_bub hz l1]
  by_cases hjl : j = l
  ·rw [if_pos hjl]
   by_cases hil : i = l
   ·rw [if_pos hil]; exact O.irr _ (P.lt _)
   ·rw [if_neg hil, if_neg (by lia)]; exact l2 i (by lia)
  ·rw [if_neg hjl]
   by_cases hjg : l < j
   ·rw [if_pos ⟨hjg, by lia⟩]
    by_cases hil : i = l
    ·rw [if_pos hil]
     exact O.asym (P.lt _) (P.lt _) (l3 (j - 1) (by lia) (by lia))
    ·rw [if_neg hil]
     by_cases hig : l < i
     ·rw [if_pos ⟨hig, by lia⟩]; exact hs _ _ (by lia) (by lia)
     ·rw [if_neg (by lia)]; exact hs _ _ (by lia) (by lia)
   ·rw [if_neg (by lia), if_neg (by lia), if_neg (by lia)]; exact hs _ _ hij (by lia)
theorem sort_rn (h2 : 2 ≤ n) : rn c n (kas_sort n) (fun p => PermN p n ∧ Srt c p n) := by
 unfold kas_sort
 refine rn_bind _ (rn_mono (fun r hr => ?_) _ (count_rn O h2 (p := List.toArray (List.range n)) ⟨Array.Perm.refl _, Nat.lt_of_lt_of_le Nat.zero_lt_two h2⟩))
 obtain ⟨r1, r2, r3, r4⟩ := hr
 by_cases h : r.1 < n
 ·rw [if_pos h]
  have e : max r.1 1 = r.1 := by lia
  rw [e]
  exact bin_rn O _ _ _ r1 r2 r3 (by lia)
 ·rw [if_neg h]
  have e : r.1 = n := by lia
  rw [e] at r2
  exact ⟨r1, r2⟩
end
end Mine
namespace Mine
open PySem PySem.W PyProof.Rows PySem.Calls PySem.Spec PySem.SeqAt
section
variable {prog : Program} {w : World} {A : Around} {o : Obj} {ds : Array DictEntry} {ep : Nat} {d : Addr}
theorem walks_keys (hh : A.handled = none) (I d : Addr) (hne : d ≠ I) (hd : o.data = .dict ds ep) :
  Walks prog w A I [I, d] [I] ds.size (fun i v => ∃ e, ds[i]? = some e ∧ v = e.key) (fun i h => h.IsKeyIter I d i ds.size ep ∧ h.get? d = some o) where
 sub := fun b hb => by simp at hb; simp [hb]
 frame := fun i h h' st hk => by
  obtain ⟨⟨oi, h1, h2⟩, h3⟩ := st
  exact ⟨⟨oi, hk I (by simp) oi h1, h2⟩, hk d (by simp) o h3⟩
 item := fun i s Q E hi st hQ => by
  have he : ds[i]? = some ds[i] := Array.getElem?_eq_getElem hi
  refine key_item st.1 st.2 hd rfl he fun h' hit hs => ?_
  exact hQ _ h' s.toks ⟨_, he, rfl⟩ ⟨hit, (hs.2 d hne).trans st.2⟩ fun b o hb e => (hs.2 b (by simpa using hb)).trans e
 done := fun s Q E st hQ => key_end hh st.1 st.2 hd rfl (Nat.le_refl _) fun h' hs _ => hQ h' s.toks fun b o hb e => hs b o (by simpa using hb) e
 self := fun i s Q E st hQ => wpAny_pyIter_keyiter st.1 hQ
theorem dictSrc (hns : (d == sysModules) = false) (hd : o.data = .dict ds ep) (hc : o.ExactDict) :
  KdlSrc prog w "dict" d d ds.size (fun i v => ∃ e, ds[i]? = some e ∧ v = e.key) (fun h => h.get? d = some o) where
 type := fun s ho => ⟨o, ho, hc.1⟩
 there := fun h ho => ⟨Heap.lt_size ho, Heap.lt_size ho⟩
 keep := fun h h' ho hk => hk d (.inl rfl) o ho
 notList := by decide
 notTuple := by decide
 hint := fun A E s Q ho hq => kdl_hint_dict ⟨o, ho, hc.1⟩ hq
 iter := fun A s hh ho => by
  refine ⟨_, _, fun E Q hq => key_iter hns ho hc hd hq, walks_keys hh _ _ (Nat.ne_of_lt (Heap.lt_size ho)) hd, ?_⟩
  exact ⟨⟨_, Heap.get?_push_size _ rfl, rfl, rfl⟩, Heap.get?_push_of_some _ ho⟩
end
section
variable {C : Cx} {n : Nat} {A : Around} {ι ι' : List Addr} {σ σ' σ₁ σ₂ : MH} {s s' : Shared} {i j ep : Nat} {v : MV} {xs vs : List MV} {es : List (MV × MV)} {rv : Value} {h h' : Heap}
theorem keys_acc {ds : Array DictEntry} {acc : Array Value} (X : ER C ι h es ds.toList) (hk : ∀ b o, Imm o → h.get? b = some o → h'.get? b = some o) (hi : ItemsOf (fun i v => ∃ e, ds[i]? = some e ∧ v = e.key) acc ds.size) : VRs ι h' (es.map (·.1)) acc.toList := by
 have K := X.keys
 have hsz : ds.size = es.length := by rw [← Array.length_toList, X.length]
 have : acc.toList = ds.toList.map (·.key) := by
  apply List.ext_getElem?
  intro k
  rw [List.getElem?_map, Array.getElem?_toList, Array.getElem?_toList]
  cases hv : acc[k]? with
  | none =>
   have : acc.size ≤ k := by simpa using hv
   rw [hi.1] at this
   rw [Array.getElem?_eq_none (by omega)]; rfl
  | some v =>
   obtain ⟨e, h1, rfl⟩ := hi.2 k v hv
   rw [h1]; rfl
 rw [this]
 exact K.map (fun _ _ e => e) hk
theorem CallEv.listD (hi : σ[i]? = some (.dict ep es)) : CallEv C n (.type "list") [.loc i] σ (.loc σ.length) (σ ++ [.list (es.map (·.1))]) := by
 intro A ι s rvs r R V
 obtain ⟨x, rfl, h1⟩ := vr1 V
 obtain ⟨d, o, ds, rfl, hl, ho, hc, K, hd, X, hz⟩ := R.dict h1 hi
 have hsz : ds.size = es.length := by rw [← Array.length_toList, X.length]
 refine kdl_call (dictSrc (R.noSys (List.mem_of_getElem? hl)) hd hc) r.1 ho (by rw [hsz]; exact hz) fun h' tk acc' c' hk hD hacc => ?_
 have hs : s.heap.objs.size ≤ h'.objs.size := Nat.le_of_lt (Heap.lt_size hD)
 refine ⟨ι ++ [s.heap.objs.size], R.new (Nat.le_refl _) hk hs hD ⟨rfl, rfl, rfl, _, _, rfl, keys_acc X (fun _ _ _ e => e) hacc, by simpa using hz⟩, ⟨_, rfl, by rw [← R.len]; exact List.getElem?_concat_length ..⟩, .new (Nat.le_refl _) hk hs, rfl, rfl⟩
end
theorem collect_src {prog : Program} {w : World} {A : Around} {E : Value → Shared → Prop} {s : Shared} {T : String} {r d : Addr} {n : Nat} {P : Nat → Value → Prop} {OK : Heap → Prop} {Q : List Value → Shared → Prop} (K : KdlSrc prog w T r d n P OK) (hh : A.handled = none) (hok : OK s.heap) (hn : n ≤ sizeLine)
  (hQ : ∀ h' tk acc', (∀ b o, s.heap.get? b = some o → h'.get? b = some o) → s.heap.objs.size ≤ h'.objs.size → ItemsOf P acc' n → Q acc'.toList { s with heap := h', toks := tk }) : wpAny (model prog w) A (collect (.ref r)) Q E s := by
 have hlt := K.there _ hok
 have key : ∀ R : Result → Shared → Prop, (∀ h' tk acc' c', (∀ b o, s.heap.get? b = some o → h'.get? b = some o) → h'.get? s.heap.objs.size = some { cls := .type "list", dict := none, data := .seq acc' c', slots := #[] } → ItemsOf P acc' n → R (.ok (.ret (.ref s.heap.objs.size))) { s with heap := h', toks := tk }) →
   codeAny (model prog w) A (.builtin "proto.collect" ⟨[.ref r], []⟩) R s := fun R hR => by
  refine codeAny_builtin PySem.F.entry_proto_collect ?_
  rw [Around.under_plainId PySem.F.plain_proto_collect _]
  show wpAny _ A.in1 (newList [] >>= fun l => again (.builtin "list.__iadd__" ⟨[l, .ref r], []⟩)) _ _ s
  refine wpAny_bind (wpAny_newObj_type ?_)
  refine wpAny_pure ⟨plainId_quiet PySem.F.plain_list_iadd _, codeAny_builtin PySem.F.entry_list_iadd ?_⟩
  rw [Around.under_plainId PySem.F.plain_list_iadd _]
  have hS : (s.heap.push { cls := .type "list", data := .seq ([] : List Value).toArray }).get? s.heap.objs.size = some { cls := .type "list", data := .seq #[] 0 } := Heap.get?_push_size _ rfl
  show wpAny _ A.in1 (Builtin.List.listExtendWith (.ref s.heap.objs.size) (.ref r) (.ref s.heap.objs.size)) _ _ _
  refine kdl_extend (A := A) (s := { s with heap := s.heap.push { cls := .type "list", data := .seq ([] : List Value).toArray } }) K hh (K.keep _ _ hok fun b _ o e => Heap.get?_push_of_some _ e) _ (Nat.ne_of_gt hlt.1) (Nat.ne_of_gt hlt.2) _ _ hS (fun h' tk acc' c' hk hS' hacc => ?_) hn
  exact hR h' tk acc' c' (fun b o e => hk b o (Nat.ne_of_lt (Heap.lt_size e)) (Heap.get?_push_of_some _ e)) hS' hacc
 unfold collect
 refine wpAny_bind (wpAny_runValue (key _ fun h' tk acc' c' hk hS' hacc => ?_))
 show wpAny _ A (load s.heap.objs.size >>= _) _ _ _
 refine wpAny_bind (wpAny_load (s := { s with heap := h', toks := tk }) hS' ?_)
 exact wpAny_pure (hQ h' tk acc' hk (Nat.le_of_lt (Heap.lt_size hS')) hacc)
end Mine
namespace Mine
open PySem PySem.W PyProof.Rows PySem.Calls PySem.Spec PySem.SeqAt
theorem rn_wp {α : Type} {c : Nat → Nat → Bool} {n : Nat} {cmp : Nat → Nat → (Bool → Shared → Prop) → Shared → Prop} {St : Shared → Prop} {Q : α → Prop} {G : α → Shared → Prop}
  (hc : ∀ i j (Cc : Bool → Shared → Prop) s', i < n → j < n → St s' → (∀ s'', St s'' → Cc (c i j) s'') → cmp i j Cc s') (hG : ∀ p s'', Q p → St s'' → G p s'') : ∀ (t : KasT α) (s' : Shared), rn c n t Q → St s' → t.kasWp cmp G s'
 | .ret _, s', h, hs => hG _ _ h hs
 | .ask i j k, s', h, hs => hc i j _ s' h.1 h.2.1 hs fun s'' hs'' => rn_wp hc hG (k (c i j)) s'' h.2.2 hs''
section
variable {prog : Program} {w : World} {A : Around} {E : Value → Shared → Prop} {s : Shared} {c : Nat → Nat → Bool}
theorem sort_at {a : Addr} {vs : List Value} {n : Nat} {P : PySem.Fin → Shared → Prop} (ho : s.heap.get? a = some (seqObj "list" vs.toArray n)) (h64 : vs.length < 64) (O : Ord c vs.length)
  (hkey : 2 ≤ vs.length → ∀ s', (∀ b o, b ≠ a → s.heap.get? b = some o → s'.heap.get? b = some o) → ∃ κ, (∀ (Q : SortKind → Shared → Prop), Q κ s' → wpAny (model prog w) A (keyKind' vs.toArray) Q (fun _ _ => False) s') ∧
   ∀ i j (Cc : Bool → Shared → Prop) tk, i < vs.length → j < vs.length → (∀ tk', Cc (c i j) { s' with toks := tk' }) → kas_ask prog w A κ vs i j Cc { s' with toks := tk })
  (h : ∀ p : Array Nat, p.Perm (List.toArray (List.range vs.length)) → Srt c p vs.length → ∀ h' tk k, (∀ b o, b ≠ a → s.heap.get? b = some o → h'.get? b = some o) → s.heap.objs.size ≤ h'.objs.size → h'.get? a = some (seqObj "list" (List.toArray (p.toList.map fun i => vs.getD i Value.none)) k) →
   P (.done (.ret .none)) { s with heap := h', toks := tk }) : wpAny (model prog w) A (Builtin.«list.sort» ⟨[.ref a], []⟩) P E s := by
 have ha : a < s.heap.objs.size := Heap.lt_size ho
 obtain ⟨e1, ho1⟩ : ∃ e1, (s.heap.update a (Obj.mapSeq fun _ => (#[] : Array Value))).get? a = some (seqObj "list" #[] e1) := ⟨_, get?_update_seq ho fun _ => #[]⟩
 have ho6 : (((s.heap.update a (Obj.mapSeq fun _ => (#[] : Array Value))).push (seqObj "tuple" vs.toArray 0)).push (seqObj "list" #[] 0)).get? a = some (seqObj "list" #[] e1) :=
  Heap.get?_push_of_some _ (Heap.get?_push_of_some _ ho1)
 have keep : ∀ b o, b ≠ a → s.heap.get? b = some o → (((s.heap.update a (Obj.mapSeq fun _ => (#[] : Array Value))).push (seqObj "tuple" vs.toArray 0)).push (seqObj "list" #[] 0)).get? b = some o := fun b o hb e =>
  Heap.get?_push_of_some _ (Heap.get?_push_of_some _ ((Heap.get?_update_ne _ _ _ _ hb).trans e))
 have hsz6 : s.heap.objs.size ≤ (((s.heap.update a (Obj.mapSeq fun _ => (#[] : Array Value))).push (seqObj "tuple" vs.toArray 0)).push (seqObj "list" #[] 0)).objs.size := by simp; lia
 rw [list_sort_plain]
 refine wpAny_bind (listItems_at ho rfl ?_)
 refine wpAny_bind (listUpdate_at ho rfl ?_ (by rw [List.size_toArray, sizeLine_eq]; lia) (Nat.zero_le _))
 refine wpAny_bind (seqEpoch_at ho1 rfl ?_)
 refine wpAny_bind (wpAny_newTuple ?_ (by show vs.length ≤ _; rw [sizeLine_eq]; lia))
 refine wpAny_bind (wpAny_newList ?_ (Nat.zero_le _))
 refine wpAny_holding ?_
 show wpAny (model prog w) A _ P E { s with heap := ((s.heap.update a (Obj.mapSeq fun _ => (#[] : Array Value))).push (seqObj "tuple" vs.toArray 0)).push (seqObj "list" #[] 0) }
 generalize (((s.heap.update a (Obj.mapSeq fun _ => (#[] : Array Value))).push (seqObj "tuple" vs.toArray 0)).push (seqObj "list" #[] 0)) = H6 at ho6 keep hsz6
 dsimp only
 have fin : ∀ (p : Array Nat) (out : Array Value) (tk : Nat), p.Perm (List.toArray (List.range vs.length)) → Srt c p vs.length → out = List.toArray (p.toList.map fun i => vs.getD i Value.none) →
   (fun s' : Shared => P (.done (.ret .none)) s') { s with heap := H6.update a (Obj.mapSeq fun _ => out), toks := tk } := fun p out tk hp hs ho' => by
  subst ho'
  obtain ⟨c2, hc2⟩ : ∃ c2, (H6.update a (Obj.mapSeq fun _ => List.toArray (p.toList.map fun i => vs.getD i Value.none))).get? a = some (seqObj "list" (List.toArray (p.toList.map fun i => vs.getD i Value.none)) c2) := ⟨_, get?_update_seq ho6 fun _ => List.toArray (p.toList.map fun i => vs.getD i Value.none)⟩
  exact h p hp hs _ tk c2 (fun b o hb e => (Heap.get?_update_ne _ _ _ _ hb).trans (keep b o hb e)) (by rw [Heap.size_update]; exact hsz6) hc2
 by_cases h2 : vs.toArray.size < 2
 ·rw [if_pos h2, if_pos h2]
  refine wpAny_bind (wpAny_pure ?_)
  rw [StateT.run_pure]
  refine wpAny_bind (wpAny_pure ?_)
  dsimp only
  refine wpAny_bind (seqEpoch_at ho6 rfl ?_)
  refine wpAny_bind (listUpdate_at ho6 rfl ?_ (hsz2 := by rw [Array.size_map]; show (pairsOf vs).size ≤ _; rw [pairsOf_size, sizeLine_eq]; lia))
  simp only [bne_self_eq_false, Bool.false_eq_true, if_false]
  rw [List.size_toArray] at h2
  refine wpAny_pure (fin (List.toArray (List.range vs.length)) _ s.toks (Array.Perm.refl _) (fun i j hij hj => ?_) ?_)
  ·have : i = j := by lia
   subst this
   have e : gt (List.toArray (List.range vs.length)) i = i := by simp [gt, Array.getD, hj]
   rw [e]; exact O.irr i hj
  ·show (vs.toArray.zip vs.toArray).map (·.2) = _
   apply Array.toList_inj.mp
   rw [Array.toList_map, ksk_zip]
   have e1 : (List.zip vs.toArray.toList vs).map (·.2) = vs := by
    rw [List.map_snd_zip]; simp
   rw [e1]
   apply List.ext_getElem
   ·simp
   ·intro i h1 h2
    simp at h2
    simp [h1]
 ·rw [if_neg h2, if_neg h2]
  rw [List.size_toArray] at h2
  obtain ⟨κ, hk1, hk2⟩ := hkey (by lia) { s with heap := H6 } keep
  refine wpAny_bind (wpAny_mono (hk1 (fun κ' s' => κ' = κ ∧ s' = { s with heap := H6 }) ⟨rfl, rfl⟩) (fun κ' s' q => ?_) fun _ _ z => z.elim)
  obtain ⟨rfl, rfl⟩ := q
  have run := rn_wp (cmp := kas_ask prog w A κ' vs) (St := fun s' => ∃ tk, s' = { s with heap := H6, toks := tk }) (G := fun p s' => p.Perm (List.toArray (List.range vs.length)) ∧ Srt c p vs.length ∧ ∃ tk, s' = { s with heap := H6, toks := tk })
   (fun i j Cc s' hi hj hst hC => by obtain ⟨tk, rfl⟩ := hst; exact hk2 i j Cc tk hi hj fun tk' => hC _ ⟨tk', rfl⟩) (fun p s' hp hst => ⟨hp.1.perm, hp.2, hst⟩) _ { s with heap := H6 } (sort_rn O (by lia)) ⟨s.toks, rfl⟩
  refine wpAny_bind (wpAny_mono (kat_run (E := E) (Q := fun st' s' => ∃ p : Array Nat, p.size = vs.length ∧ arrOf st' = p.map (kas_item (vs.toArray.zip vs.toArray)) ∧ failedOf st' = none ∧ p.Perm (List.toArray (List.range vs.length)) ∧ Srt c p vs.length ∧ ∃ tk, s' = { s with heap := H6, toks := tk })
   rfl (by lia) h64 (fun p' st' s' a1 a2 a3 a4 => ⟨p', a1, a2, a3, a4⟩) run) ?_ fun _ _ e => e)
  rintro ⟨⟨⟩, st'⟩ s' ⟨p, hp, har, hf, hP, hS, tk, rfl⟩
  dsimp only
  have hout := kat_snds rfl har
  have hsz : (List.toArray (p.toList.map fun i => vs.getD i Value.none)).size = vs.length := by rw [List.size_toArray, List.length_map, Array.length_toList, hp]
  rw [hout]
  refine wpAny_bind (seqEpoch_at (s := { s with heap := H6, toks := tk }) ho6 rfl ?_)
  refine wpAny_bind (listUpdate_at (s := { s with heap := H6, toks := tk }) ho6 rfl ?_ (Nat.zero_le _) (Nat.le_trans (Nat.le_of_eq hsz) (by rw [sizeLine_eq]; lia)))
  rw [hf]
  simp only [bne_self_eq_false, Bool.false_eq_true, if_false]
  exact wpAny_pure (fin p _ tk hP hS rfl)
end
end Mine
namespace Mine
open PySem PySem.W PyProof.Rows PySem.Calls PySem.Spec PySem.SeqAt
noncomputable def chainB : List Str → Bool
 | a :: b :: r => decide (a.cps.toList < b.cps.toList) && chainB (b :: r)
 | _ => true
theorem tab_chain : chainB tab = true := by decide +kernel
theorem chain_lt : ∀ {l : List Str} {i j : Nat} {x y : Str}, chainB l = true → i < j → l[i]? = some x → l[j]? = some y → x.cps.toList < y.cps.toList
 | [], i, j, x, y, _, _, h, _ => by simp at h
 | [a], i, j, x, y, _, hij, _, h => by
  cases j with
  | zero => lia
  | succ j => simp at h
 | a :: b :: r, i, j, x, y, hc, hij, hx, hy => by
  simp only [chainB, Bool.and_eq_true, decide_eq_true_eq] at hc
  cases j with
  | zero => lia
  | succ j =>
   rw [List.getElem?_cons_succ] at hy
   cases i with
   | succ i => rw [List.getElem?_cons_succ] at hx; exact chain_lt hc.2 (by lia) hx hy
   | zero =>
    simp at hx; subst hx
    cases j with
    | zero => simp at hy; subst hy; exact hc.1
    | succ j => exact List.lt_trans hc.1 (chain_lt (i := 0) (j := j + 1) hc.2 (by lia) rfl hy)
theorem tab_lt {i j : Nat} {x y : Str} (hx : tab[i]? = some x) (hy : tab[j]? = some y) : decide (x.cps.toList < y.cps.toList) = decide ((i : Int) < (j : Int)) := by
 rcases Nat.lt_trichotomy i j with h | h | h
 ·have := chain_lt tab_chain h hx hy
  simp [this, h]
 ·subst h
  rw [hx] at hy; cases hy
  have : ¬ x.cps.toList < x.cps.toList := List.lt_irrefl _
  simp [this]
 ·have h1 := chain_lt tab_chain h hy hx
  have h2 : ¬ x.cps.toList < y.cps.toList := fun q => List.lt_irrefl _ (List.lt_trans h1 q)
  have h3 : ¬ ((i : Int) < (j : Int)) := by lia
  simp only [h2, h3]
noncomputable def atomKey : MV → Int
 | .int a => a
 | .str i => (i : Int)
 | _ => 0
noncomputable def keyM : MV → List Int
 | .tup xs => xs.map atomKey
 | v => [atomKey v]
noncomputable def sameKind : MV → MV → Bool
 | .int _, .int _ => true
 | .str _, .str _ => true
 | _, _ => false
noncomputable def cmpL : List MV → List MV → Bool
 | x :: xs, y :: ys => sameKind x y && (!(x.beq y) || cmpL xs ys)
 | _, _ => true
theorem same_key {x y : MV} (h : sameKind x y = true) (e : atomKey x = atomKey y) : x = y := by
 cases x <;> cases y <;> simp [sameKind] at h <;> simp only [atomKey] at e <;> first | rw [e] | (congr 1; lia)
theorem cmpL_key : ∀ {xs ys : List MV}, cmpL xs ys = true → xs.map atomKey = ys.map atomKey → xs = ys
 | [], [], _, _ => rfl
 | [], _ :: _, _, e => by simp at e
 | _ :: _, [], _, e => by simp at e
 | x :: xs, y :: ys, h, e => by
  simp only [cmpL, Bool.and_eq_true, Bool.or_eq_true, Bool.not_eq_true'] at h
  simp only [List.map_cons, List.cons.injEq] at e
  have hxy := same_key h.1 e.1
  subst hxy
  rcases h.2 with q | q
  ·rw [MV.beq_refl] at q; cases q
  ·rw [cmpL_key q e.2]
section
variable {C : Cx} {n : Nat} {A : Around} {ι ι' : List Addr} {σ σ' σ₁ σ₂ : MH} {s s' : Shared} {i j ep : Nat} {v : MV} {xs vs : List MV} {es : List (MV × MV)} {rv : Value} {h h' : Heap}
theorem atom_cases {x : MV} (h : x.isAtom) : (∃ a, x = .int a) ∨ ∃ i y, x = .str i ∧ tab[i]? = some y := by
 obtain ⟨a, ha⟩ := h
 cases x <;> simp [atomOf] at ha
 ·exact .inl ⟨_, rfl⟩
 ·obtain ⟨y, hy, _⟩ := ha; exact .inr ⟨_, y, rfl, hy⟩
theorem atom_lt {x y : MV} {rx ry : Value} {b : Bool} {Q : Bool → Shared → Prop} (hx : VR ι s.heap x rx) (hy : VR ι s.heap y ry) (hk : sameKind x y = true) (h : ∀ tk, Q (decide (atomKey x < atomKey y)) { s with toks := tk }) :
  wpAny (model C.prog C.w) A (oneLt' b rx ry) Q (fun _ _ => False) s := by
 cases x <;> cases y <;> simp [sameKind] at hk
 ·obtain ⟨t, rfl⟩ := hx
  obtain ⟨u, rfl⟩ := hy
  cases b with
  | true => exact oneLt_int (h s.toks)
  | false => exact kat_one _ _ (PyProof.Rows.lt_int (h _))
 ·obtain ⟨a, t, ha, rfl⟩ := hx
  obtain ⟨c, u, hc, rfl⟩ := hy
  have e := tab_lt ha hc
  cases b with
  | true => refine oneLt_str ?_; rw [e]; exact h s.toks
  | false => refine kat_one _ _ (PyProof.Rows.lt_str ?_); show Q (decide _) s; rw [e]; exact h s.toks
theorem lex_R {fin : Bool} {Q : Bool → Shared → Prop} : ∀ {xs ys : List MV} {rxs rys : List Value} (k : Nat), VRs ι s.heap xs rxs → VRs ι s.heap ys rys → (∀ x ∈ xs, x.isAtom) → (∀ y ∈ ys, y.isAtom) → cmpL xs ys = true → fin = decide (xs.length < ys.length) →
  (∀ tk, Q (decide (xs.map atomKey < ys.map atomKey)) { s with toks := tk }) → KatLex C.prog C.w A true fin Q (rxs.zip rys) k s
 | [], [], rxs, rys, k, hx, hy, _, _, _, hf, hQ => by
  have hx : _ = _ := hx; have hy : _ = _ := hy; subst hx; subst hy; subst hf
  have := hQ s.toks
  simpa [KatLex] using this
 | [], y :: ys, rxs, rys, k, hx, hy, _, _, _, hf, hQ => by
  have hx : _ = _ := hx; subst hx; subst hf
  have := hQ s.toks
  simpa [KatLex] using this
 | x :: xs, [], rxs, rys, k, hx, hy, _, _, _, hf, hQ => by
  have hy : _ = _ := hy; subst hy; subst hf
  have := hQ s.toks
  simpa [KatLex] using this
 | x :: xs, y :: ys, rxs, rys, k, hx, hy, ax, ay, hc, hf, hQ => by
  obtain ⟨rx, r1, rfl, x1, x2⟩ := hx
  obtain ⟨ry, r2, rfl, y1, y2⟩ := hy
  simp only [cmpL, Bool.and_eq_true, Bool.or_eq_true, Bool.not_eq_true'] at hc
  obtain ⟨a, ha⟩ := ax x (by simp)
  obtain ⟨b, hb⟩ := ay y (by simp)
  rw [List.zip_cons_cons]
  refine kat_cons ((atomKind C.prog C.w).eqBool (x1.atom ha) (y1.atom hb) ?_)
  by_cases hab : a = b
  ·have hxy : x = y := atomOf_inj ha (hab ▸ hb)
   subst hxy
   have hcl : cmpL xs ys = true := by
    rcases hc.2 with q | q
    ·rw [MV.beq_refl] at q; cases q
    ·exact q
   simp only [hab, decide_true]
   refine kat_yes (lex_R (k + 1) x2 y2 (fun z hz => ax z (by simp [hz])) (fun z hz => ay z (by simp [hz])) hcl (by rw [hf]; simp) fun tk => ?_)
   have := hQ tk
   simpa [List.cons_lt_cons_iff] using this
  ·simp only [hab, decide_false]
   have hne : x ≠ y := fun q => hab (by subst q; rw [ha] at hb; cases hb; rfl)
   have hkne : atomKey x ≠ atomKey y := fun q => hne (same_key hc.1 q)
   refine kat_no (atom_lt x1 y1 hc.1 fun tk => ?_)
   have := hQ tk
   have e : decide (List.map atomKey (x :: xs) < List.map atomKey (y :: ys)) = decide (atomKey x < atomKey y) := by
    simp [List.cons_lt_cons_iff, hkne]
   rw [e] at this
   exact this
structure SortOk (xs : List MV) : Prop where
 nodup : xs.Nodup
 kind : (∀ x ∈ xs, ∃ a, x = .int a) ∨ (∀ x ∈ xs, ∃ i, x = .str i ∧ i < tab.length) ∨
  ((∀ x ∈ xs, ∃ h t, x = .tup (h :: t) ∧ ∀ y ∈ h :: t, y.isAtom) ∧ ((∀ x ∈ xs, ∃ a t, x = .tup (.int a :: t)) ∨ (∀ x ∈ xs, ∃ i t, x = .tup (.str i :: t))) ∧ ∀ x ∈ xs, ∀ y ∈ xs, ∀ a b, x = .tup a → y = .tup b → cmpL a b = true)
theorem SortOk.inj {xs : List MV} (S : SortOk xs) {x y : MV} (hx : x ∈ xs) (hy : y ∈ xs) (e : keyM x = keyM y) : x = y := by
 rcases S.kind with h | h | ⟨h1, _, h3⟩
 ·obtain ⟨a, rfl⟩ := h x hx; obtain ⟨b, rfl⟩ := h y hy
  simp [keyM, atomKey] at e; rw [e]
 ·obtain ⟨a, rfl, _⟩ := h x hx; obtain ⟨b, rfl, _⟩ := h y hy
  simp only [keyM, atomKey, List.cons.injEq, and_true] at e; congr 1; lia
 ·obtain ⟨a, t, rfl, _⟩ := h1 x hx; obtain ⟨b, u, rfl, _⟩ := h1 y hy
  rw [cmpL_key (h3 _ hx _ hy _ _ rfl rfl) e]
noncomputable def sortM (xs : List MV) : List MV := xs.mergeSort fun a b => decide (keyM a ≤ keyM b)
theorem sortM_perm (xs : List MV) : (sortM xs).Perm xs := List.mergeSort_perm _ _
theorem le_keys (a b : List Int) : (decide (a ≤ b) || decide (b ≤ a)) = true := by
 rcases List.le_total a b with h | h <;> simp [h]
theorem sortM_sorted (xs : List MV) : (sortM xs).Pairwise fun a b => keyM a ≤ keyM b := by
 have := List.pairwise_mergeSort (le := fun a b : MV => decide (keyM a ≤ keyM b)) (fun a b c h1 h2 => by simp only [decide_eq_true_eq] at *; exact List.le_trans h1 h2) (fun _ _ => le_keys _ _) xs
 unfold sortM
 simpa using this
theorem sortM_uniq {xs zs : List MV} (S : SortOk xs) (hp : zs.Perm xs) (hs : zs.Pairwise fun a b => keyM a ≤ keyM b) : zs = sortM xs :=
 List.Perm.eq_of_pairwise (fun a b ha hb h1 h2 => S.inj (hp.mem_iff.mp ha) ((sortM_perm xs).mem_iff.mp hb) (List.le_antisymm h1 h2)) hs (sortM_sorted xs) (hp.trans (sortM_perm xs).symm)
theorem sortM_congr {xs ys : List MV} (S : SortOk xs) (hp : ys.Perm xs) : sortM ys = sortM xs := sortM_uniq S ((sortM_perm ys).trans hp) (sortM_sorted ys)
theorem tups_R {T : Value → Prop} {Pm : MV → Prop} (hT : ∀ hd rv, Pm hd → VR ι h hd rv → T rv) : ∀ {xs : List MV} {vs : List Value}, VRs ι h xs vs → (∀ x ∈ xs, ∃ hd t, x = .tup (hd :: t) ∧ Pm hd) → ∃ fs, N3 (KatTups h vs fs) ((∀ f ∈ fs, T f)) (fs.length = xs.length)
 | [], vs, hv, _ => by have hv : _ = _ := hv; subst hv; exact ⟨[], KatTups.nil, by simp, rfl⟩
 | x :: xs, vs, hv, hp => by
  obtain ⟨rv, r, rfl, h1, h2⟩ := hv
  obtain ⟨fs, f1, f2, f3⟩ := tups_R hT h2 fun y hy => hp y (by simp [hy])
  obtain ⟨hd, t, rfl, hpd⟩ := hp _ (List.mem_cons_self ..)
  obtain ⟨a, items, k, rfl, ho, hi⟩ := h1
  obtain ⟨f, hf, hvf⟩ := hi.get (i := 0) rfl
  refine ⟨f :: fs, KatTups.cons ho rfl rfl (by rw [← Array.getElem?_toList]; exact hf) f1, fun g hg => ?_, by simp [f3]⟩
  rcases List.mem_cons.mp hg with rfl | hg
  ·exact hT _ _ hpd hvf
  ·exact f2 g hg
theorem VRs.getD {xs : List MV} {vs : List Value} {i : Nat} (V : VRs ι h xs vs) (hi : i < xs.length) : VR ι h (xs.getD i .none) (vs.getD i .none) := by
 obtain ⟨v, h1, h2⟩ := V.get (List.getElem?_eq_getElem hi)
 rw [List.getD_eq_getElem?_getD, List.getD_eq_getElem?_getD, h1, List.getElem?_eq_getElem hi]
 exact h2
noncomputable def cmpI (xs : List MV) (i j : Nat) : Bool := decide (keyM (xs.getD i .none) < keyM (xs.getD j .none))
theorem mem_getD {xs : List MV} {i : Nat} (hi : i < xs.length) : xs.getD i .none ∈ xs := by
 rw [List.getD_eq_getElem?_getD, List.getElem?_eq_getElem hi]; exact List.getElem_mem hi
theorem SortOk.ord {xs : List MV} (S : SortOk xs) : Ord (cmpI xs) xs.length where
 irr := fun a _ => by simp [cmpI, List.lt_irrefl]
 tr := fun a b d _ _ _ h1 h2 => by simp only [cmpI, decide_eq_true_eq] at *; exact List.lt_trans h1 h2
 tot := fun a b ha hb hne => by
  simp only [cmpI, decide_eq_true_eq]
  have hk : keyM (xs.getD a .none) ≠ keyM (xs.getD b .none) := fun e => hne (by
   have := S.inj (mem_getD ha) (mem_getD hb) e
   rw [List.getD_eq_getElem?_getD, List.getD_eq_getElem?_getD, List.getElem?_eq_getElem ha, List.getElem?_eq_getElem hb] at this
   exact (List.getElem_inj S.nodup).mp this)
  by_cases h1 : keyM (xs.getD a .none) < keyM (xs.getD b .none)
  ·exact .inl h1
  ·by_cases h2 : keyM (xs.getD b .none) < keyM (xs.getD a .none)
   ·exact .inr h2
   ·exact absurd (List.le_antisymm (List.not_lt.mp h2) (List.not_lt.mp h1)) hk
theorem ask_R {vs : List Value} (S : SortOk xs) (V : VRs ι s.heap xs vs) (h2 : 2 ≤ vs.length) : ∃ κ, (∀ (Q : SortKind → Shared → Prop), Q κ s → wpAny (model C.prog C.w) A (keyKind' vs.toArray) Q (fun _ _ => False) s) ∧ ∀ i j (Cc : Bool → Shared → Prop) tk, i < vs.length → j < vs.length → (∀ tk', Cc (cmpI xs i j) { s with toks := tk' }) → kas_ask C.prog C.w A κ vs i j Cc { s with toks := tk } := by
 have hl := V.length
 have hmem : ∀ v ∈ vs, ∃ x ∈ xs, VR ι s.heap x v := fun v hv => by
  obtain ⟨i, hi⟩ := List.mem_iff_getElem?.mp hv
  have hlt := (List.getElem?_eq_some_iff.mp hi).1
  obtain ⟨v', h1, h3⟩ := V.get (List.getElem?_eq_getElem (l := xs) (i := i) (by lia))
  rw [hi] at h1; cases h1
  exact ⟨_, List.getElem_mem _, h3⟩
 rcases S.kind with hk | hk | ⟨hk1, hk2, hk3⟩
 ·refine ⟨oneType', fun Q hQ => kas_kind (T := .type "int") h2 (fun v hv => ?_) (by decide) (by decide) hQ, fun i j Cc tk hi hj hC => ?_⟩
  ·obtain ⟨x, hx, hvx⟩ := hmem v hv
   obtain ⟨a, rfl⟩ := hk x hx
   obtain ⟨t, rfl⟩ := hvx
   exact Looks.of_pure rfl
  ·unfold kas_ask
   rw [keyLt'_oneType]
   obtain ⟨a, ha⟩ := hk _ (mem_getD (xs := xs) (i := i) (by lia))
   obtain ⟨b, hb⟩ := hk _ (mem_getD (xs := xs) (i := j) (by lia))
   refine atom_lt (s := { s with toks := tk }) (V.getD (by lia)) (V.getD (by lia)) (by rw [ha, hb]; rfl) fun tk' => ?_
   have := hC tk'
   have e : cmpI xs i j = decide (atomKey (xs.getD i .none) < atomKey (xs.getD j .none)) := by
    unfold cmpI; rw [ha, hb]; simp [keyM, List.cons_lt_cons_iff]
   rw [e] at this; exact this
 ·refine ⟨oneType', fun Q hQ => kas_kind (T := .type "str") h2 (fun v hv => ?_) (by decide) (by decide) hQ, fun i j Cc tk hi hj hC => ?_⟩
  ·obtain ⟨x, hx, hvx⟩ := hmem v hv
   obtain ⟨a, rfl, _⟩ := hk x hx
   obtain ⟨_, t, _, rfl⟩ := hvx
   exact Looks.of_pure rfl
  ·unfold kas_ask
   rw [keyLt'_oneType]
   obtain ⟨a, ha, _⟩ := hk _ (mem_getD (xs := xs) (i := i) (by lia))
   obtain ⟨b, hb, _⟩ := hk _ (mem_getD (xs := xs) (i := j) (by lia))
   refine atom_lt (s := { s with toks := tk }) (V.getD (by lia)) (V.getD (by lia)) (by rw [ha, hb]; rfl) fun tk' => ?_
   have := hC tk'
   have e : cmpI xs i j = decide (atomKey (xs.getD i .none) < atomKey (xs.getD j .none)) := by
    unfold cmpI; rw [ha, hb]; simp [keyM, List.cons_lt_cons_iff]
   rw [e] at this; exact this
 ·have asks : ∀ i j (Cc : Bool → Shared → Prop) tk, i < vs.length → j < vs.length → (∀ tk', Cc (cmpI xs i j) { s with toks := tk' }) → kas_ask C.prog C.w A (tuples' true) vs i j Cc { s with toks := tk } := fun i j Cc tk hi hj hC => by
   unfold kas_ask
   obtain ⟨a, ta, ha, aa⟩ := hk1 _ (mem_getD (xs := xs) (i := i) (by lia))
   obtain ⟨b, tb, hb, ab⟩ := hk1 _ (mem_getD (xs := xs) (i := j) (by lia))
   have hcm := hk3 _ (mem_getD (xs := xs) (i := i) (by lia)) _ (mem_getD (xs := xs) (i := j) (by lia)) _ _ ha hb
   have Vi := V.getD (i := i) (by lia)
   have Vj := V.getD (i := j) (by lia)
   rw [ha] at Vi
   rw [hb] at Vj
   obtain ⟨p, ip, kp, e1, e2, e3⟩ := Vi
   obtain ⟨q, iq, kq, f1, f2, f3⟩ := Vj
   rw [e1, f1]
   refine kat_lt (s := { s with toks := tk }) e2 rfl f2 rfl (lex_R (s := { s with toks := tk }) 0 e3 f3 aa ab hcm (by rw [← e3.length, ← f3.length]; simp) fun tk' => ?_)
   have := hC tk'
   have e : cmpI xs i j = decide (List.map atomKey (a :: ta) < List.map atomKey (b :: tb)) := by
    unfold cmpI; rw [ha, hb]; rfl
   rw [e] at this; exact this
  rcases hk2 with hk2 | hk2
  ·obtain ⟨fs, f1, f2, f3⟩ := tups_R (T := fun rv => E2 fun a t => rv = .int a t) (Pm := fun x => ∃ a, x = .int a) (fun hd rv hp hv => by obtain ⟨a, rfl⟩ := hp; obtain ⟨t, rfl⟩ := hv; exact ⟨_, _, rfl⟩) V (fun x hx => by obtain ⟨a, t, rfl⟩ := hk2 x hx; exact ⟨_, _, rfl, a, rfl⟩)
   exact ⟨_, fun Q hQ => kat_kind (T := .type "int") f1 (by lia) (fun v hv => by obtain ⟨a, t, rfl⟩ := f2 v hv; exact Looks.of_pure rfl) (by decide) hQ, asks⟩
  ·obtain ⟨fs, f1, f2, f3⟩ := tups_R (T := fun rv => E2 fun a t => rv = .str a t) (Pm := fun x => ∃ a, x = .str a) (fun hd rv hp hv => by obtain ⟨a, rfl⟩ := hp; obtain ⟨_, t, _, rfl⟩ := hv; exact ⟨_, _, rfl⟩) V (fun x hx => by obtain ⟨a, t, rfl⟩ := hk2 x hx; exact ⟨_, _, rfl, a, rfl⟩)
   exact ⟨_, fun Q hQ => kat_kind (T := .type "str") f1 (by lia) (fun v hv => by obtain ⟨a, t, rfl⟩ := f2 v hv; exact Looks.of_pure rfl) (by decide) hQ, asks⟩
theorem sorted_tail {s₀ : Shared} {vs : List Value} (R : Rel C ι σ s₀.heap) (S : SortOk xs) (V : VRs ι s₀.heap xs vs) (h64 : xs.length < 64) (hk : ∀ b o, s₀.heap.get? b = some o → s.heap.get? b = some o) (hz : s₀.heap.objs.size ≤ s.heap.objs.size) (hg : s.gens = s₀.gens) (hos : s.os = s₀.os) :
  wpAny (model C.prog C.w) A (newList vs >>= fun l => holding [l] (call (.builtin "list.sort") [l]) >>= fun _ => ret l) (fun fin s' => ∃ rv, fin = .done (.ret rv) ∧ Post C ι s₀ (.loc σ.length) (σ ++ [.list (sortM xs)]) rv s') (fun _ _ => False) s := by
 have hl := V.length
 refine wpAny_bind (wpAny_newList ?_ (by rw [sizeLine_eq]; lia))
 have hoL : (s.heap.push (seqObj "list" vs.toArray 0)).get? s.heap.objs.size = some (seqObj "list" vs.toArray 0) := Heap.get?_push_size _ rfl
 have keep : ∀ b o, s.heap.get? b = some o → (s.heap.push (seqObj "list" vs.toArray 0)).get? b = some o := fun b o e => Heap.get?_push_of_some _ e
 refine wpAny_bind (wpAny_holding (wpAny_call_entry slot_list_sort ⟨_, hoL, rfl⟩ entry_list_sort (sort_at (c := cmpI xs) (s := { s with heap := s.heap.push (seqObj "list" vs.toArray 0) }) hoL (by lia) (by rw [hl]; exact S.ord) (fun h2 s' hk' => ?_) fun p hP hS h' tk k hkp hsz hD => ?_) (args_list_sort _)))
 ·refine ask_R S (V.map (fun _ _ e => e) fun b o _ e => hk' b o ?_ (keep b o (hk b o e))) h2
  have h1 := Heap.lt_size (hk b o e)
  exact Nat.ne_of_lt h1
 ·refine ⟨_, rfl, wpAny_pure ⟨_, rfl, ?_⟩⟩
  have hall : ∀ b o, s₀.heap.get? b = some o → h'.get? b = some o := fun b o e => hkp b o (Nat.ne_of_lt (Heap.lt_size (hk b o e))) (keep b o (hk b o e))
  have hsz0 : s₀.heap.objs.size ≤ h'.objs.size := by
   have : s.heap.objs.size + 1 ≤ h'.objs.size := by simpa using hsz
   lia
  have hpl : p.toList.Perm (List.range vs.length) := by simpa using Array.perm_iff_toList_perm.mp hP
  have hzs : p.toList.map (fun i => xs.getD i .none) = sortM xs := by
   refine sortM_uniq S ?_ ?_
   ·have e : (List.range vs.length).map (fun i => xs.getD i .none) = xs := by
     apply List.ext_getElem
     ·simp [hl]
     ·intro i h1 h2
      simp [h2]
    have := hpl.map fun i => xs.getD i .none
    rw [e] at this
    exact this
   ·rw [List.pairwise_iff_getElem]
    intro i j hi hj hij
    have hps : p.toList.length = vs.length := by simpa using hpl.length_eq
    simp only [List.length_map] at hi hj
    have hs := hS i j (Nat.le_of_lt hij) (by lia)
    simp only [cmpI, decide_eq_false_iff_not] at hs
    have g : ∀ q (hq : q < p.toList.length), gt p q = p.toList[q] := fun q hq => by
     have : q < p.size := by simpa using hq
     simp [gt, Array.getD, this]
    rw [g i hi, g j hj] at hs
    simp only [List.getElem_map]
    exact List.not_lt.mp hs
  have hv : VRs ι h' (sortM xs) (p.toList.map fun i => vs.getD i Value.none) := by
   rw [← hzs]
   refine VRs.iff (by simp) fun i x v h1 h2 => ?_
   rw [List.getElem?_map] at h1 h2
   obtain ⟨q, hq, rfl⟩ := Option.map_eq_some_iff.mp h1
   rw [hq] at h2
   simp only [Option.map_some, Option.some.injEq] at h2
   subst h2
   have hlt : q < vs.length := by
    have hm := hpl.mem_iff.mp (List.mem_of_getElem? hq)
    simpa using hm
   exact (V.getD (by lia)).map (fun _ _ e => e) fun b o _ e => hall b o e
  have hlen : (sortM xs).length ≤ sizeLine := by rw [(sortM_perm xs).length_eq, sizeLine_eq]; lia
  exact ⟨ι ++ [s.heap.objs.size], R.new hz hall hsz0 hD ⟨rfl, rfl, rfl, _, _, rfl, by
   have back : VRs ι s₀.heap (sortM xs) (p.toList.map fun i => vs.getD i Value.none) := by
    rw [← hzs]
    refine VRs.iff (by simp) fun i x v h1 h2 => ?_
    rw [List.getElem?_map] at h1 h2
    obtain ⟨q, hq, rfl⟩ := Option.map_eq_some_iff.mp h1
    rw [hq] at h2
    simp only [Option.map_some, Option.some.injEq] at h2
    subst h2
    have hlt : q < vs.length := by
     have hm := hpl.mem_iff.mp (List.mem_of_getElem? hq)
     simpa using hm
    exact V.getD (by lia)
   simpa using back, hlen⟩, ⟨_, rfl, by rw [← R.len]; exact List.getElem?_concat_length ..⟩, .new hz hall hsz0, hg, hos⟩
theorem CallEv.sortedL (hi : σ[i]? = some (.list xs)) (S : SortOk xs) (h64 : xs.length < 64 := by decide) : CallEv C n (.builtin "sorted") [.loc i] σ (.loc σ.length) (σ ++ [.list (sortM xs)]) := by
 intro A ι s rvs r R V
 obtain ⟨x, rfl, h1⟩ := vr1 V
 obtain ⟨l, items, k, rfl, hl, ho, hx, hz, hsz⟩ := R.isL h1 hi
 refine Calls.call_function_entry kind_sorted plain_sorted entry_sorted (args_sorted1 _) ?_
 unfold Builtin.«sorted»
 refine wpAny_bind (m := checkCount "sorted" 1 1 _) (wpAny_pure ?_)
 refine wpAny_bind (collect_list (vs := items.toList) ⟨_, ho, rfl, k, by simp⟩ ?_ (by rw [hx.length]; exact hz))
 refine wpAny_mono (sorted_tail (s₀ := s) R S hx h64 (fun b o e => ?_) (by simp) rfl rfl) (fun fin s' p => ?_) fun _ _ z => z
 ·exact (Heap.get?_update_ne _ _ _ _ (Nat.ne_of_lt (Heap.lt_size e))).trans (Heap.get?_push_of_some _ e)
 ·obtain ⟨rv, rfl, p⟩ := p; exact ⟨rv, rfl, p⟩
theorem CallEv.sortedD (hi : σ[i]? = some (.dict ep es)) (S : SortOk (es.map (·.1))) (h64 : es.length < 64 := by decide) : CallEv C n (.builtin "sorted") [.loc i] σ (.loc σ.length) (σ ++ [.list (sortM (es.map (·.1)))]) := by
 intro A ι s rvs r R V
 obtain ⟨x, rfl, h1⟩ := vr1 V
 obtain ⟨d, o, ds, rfl, hl, ho, hc, K, hd, X, hz⟩ := R.dict h1 hi
 have hsz : ds.size = es.length := by rw [← Array.length_toList, X.length]
 refine Calls.call_function_entry kind_sorted plain_sorted entry_sorted (args_sorted1 _) ?_
 unfold Builtin.«sorted»
 refine wpAny_bind (m := checkCount "sorted" 1 1 _) (wpAny_pure ?_)
 refine wpAny_bind (collect_src (dictSrc (R.noSys (List.mem_of_getElem? hl)) hd hc) r.1 ho (by rw [hsz]; exact hz) fun h' tk acc' hk hsz' hacc => ?_)
 refine wpAny_mono (sorted_tail (s₀ := s) R S (keys_acc (h' := s.heap) X (fun _ _ _ e => e) hacc) (by simpa using h64) hk hsz' rfl rfl) (fun fin s' p => ?_) fun _ _ z => z
 obtain ⟨rv, rfl, p⟩ := p; exact ⟨rv, rfl, p⟩
end
end Mine
namespace Mine
open PySem PySem.W PyProof.Rows PySem.Calls PySem.Spec PySem.SeqAt
section
variable {C : Cx} {n : Nat} {A : Around} {ι ι' : List Addr} {σ σ' σ₁ σ₂ σ₃ : MH} {s s' : Shared} {i j ep : Nat} {v v₁ v₂ : MV} {xs ys vs : List MV} {es fs : List (MV × MV)} {rv : Value} {h h' : Heap} {Cl fI : Addr} {ρ : List (Nat × MV)}
theorem CallEv.make (hm : clsB C.K Cl = true) (hi : findIn C.K (.ref Cl) "__init__" = some (some (.ref fI))) (hf : typeIn C.K (.ref fI) = some (.type "function")) (h : CodeEv C n (.ref fI) (.inst Cl σ.length :: vs) (σ ++ [.ns []]) .none σ') :
  CallEv C (n + 1) (.ref Cl) vs σ (.inst Cl σ.length) σ' := by
 intro A ι s rvs r R V
 have K := clsOk hm
 have X := R.inK
 refine wpAny_call ?_
 obtain ⟨hh, g, d, t, os⟩ := s
 refine make_core (makes_of X K.makes) (looks_findIn X hi) (fun self => bind_fn X self hf) (.inl rfl) ?_
 have k : ∀ b o, hh.get? b = some o → ((hh.push emptyDict).push (instObj Cl hh.objs.size)).get? b = some o := fun b o e => Heap.get?_push_of_some _ (Heap.get?_push_of_some _ e)
 have hz : hh.objs.size ≤ ((hh.push emptyDict).push (instObj Cl hh.objs.size)).objs.size := by simp; lia
 have hD : ((hh.push emptyDict).push (instObj Cl hh.objs.size)).get? hh.objs.size = some emptyDict := Heap.get?_push_of_some _ (Heap.get?_push_size _ rfl)
 have hx : ((hh.push emptyDict).push (instObj Cl hh.objs.size)).get? (hh.objs.size + 1) = some (instObj Cl hh.objs.size) := by
  have := Heap.get?_push_size (o := instObj Cl hh.objs.size) (hh.push emptyDict) rfl
  rwa [Heap.size_push] at this
 have hor : OR C ι hh (.ns []) emptyDict := by
  refine ⟨rfl, rfl, #[], 0, fun _ => none, rfl, ?_, ?_, fun x => ?_, fun i x _ => by simp [alook], fun x hx => by simp at hx⟩
  ·intro e he; simp at he
  ·show List.Pairwise _ []; exact List.Pairwise.nil
  ·simp [nsFind, findBy]
 have R' : Rel C (ι ++ [hh.objs.size]) (σ ++ [.ns []]) ((hh.push emptyDict).push (instObj Cl hh.objs.size)) := R.new (Nat.le_refl _) k hz hD hor
 have S' : Stp [] ι ⟨hh, g, d, t, os⟩ (ι ++ [hh.objs.size]) ⟨(hh.push emptyDict).push (instObj Cl hh.objs.size), g, d, t, os⟩ := ⟨.new (Nat.le_refl _) k hz, rfl, rfl⟩
 have hi' : (ι ++ [hh.objs.size])[σ.length]? = some hh.objs.size := by rw [← R.len]; simp
 have Vi : VR (ι ++ [hh.objs.size]) ((hh.push emptyDict).push (instObj Cl hh.objs.size)) (.inst Cl σ.length) (.ref (hh.objs.size + 1)) := by
  exact ⟨_, _, rfl, hx, hi'⟩
 have r' : Room (A.under (.builtin "type.__call__" ⟨.ref Cl :: rvs, []⟩)) n := ⟨r.1, by have := r.2.1; show A.depth + 1 + n < _; lia, by have := r.2.2; show A.units + 1 + 4 * n + 200 < cLine; lia⟩
 refine h _ _ _ (.ref (hh.objs.size + 1) :: rvs) _ r' R' (.cons Vi (V.step R .nil S'.heap)) fun rv s₂ p => ?_
 obtain ⟨ι₂, R₂, V₂, S₂⟩ := p
 have V₂ : _ = _ := V₂
 subst V₂
 exact ⟨rfl, ι₂, R₂, Vi.step R' .nil S₂.heap, S'.trans S₂⟩
end
end Mine
namespace Mine
open PySem PySem.W PyProof.Rows PySem.Calls PySem.Spec PySem.SeqAt
theorem runs_size {M : Model} {Γ : PySem.Ctx} {p : Pos} {t : Sem PySem.Fin} {fs : List Frame} {s s' : Shared} {e : End} (h : Runs M Γ p t fs s e s') : s.heap.objs.size ≤ s'.heap.objs.size := by
 induction h <;> (try simp only [Shared.setGen, Heap.size_push, Heap.size_update] at *) <;> lia
theorem wakes_size {M : Model} {Γ : PySem.Ctx} {p : Pos} {g : Nat} {r : Resume} {s s' : Shared} {res : GenResult} (h : Wakes M Γ p g r s res s') : s.heap.objs.size ≤ s'.heap.objs.size := by
 unfold Wakes at h
 split at h
 ·exact h.elim
 ·split at h
  ·obtain ⟨e₁, s₁, hr, _, _, rfl⟩ := h; exact (runs_size hr : (s.setGen g .running).heap.objs.size ≤ s₁.heap.objs.size)
  ·rw [h.2]; exact Nat.le_refl _
  ·rw [h.2]; exact Nat.le_refl _
 ·obtain ⟨e₁, s₁, hr, _, _, rfl⟩ := h; exact (runs_size hr : (s.setGen g .running).heap.objs.size ≤ s₁.heap.objs.size)
 ·rw [h.2]; exact Nat.le_refl _
 ·rw [h.2]; exact Nat.le_refl _
theorem wp_size {α : Type} (M : Model) (Γ : PySem.Ctx) (n : Nat) (t : Sem α) : ∀ (Q : α → Pos → Shared → Prop) (E : Value → Pos → Shared → Prop) (p : Pos) (s : Shared), n ≤ s.heap.objs.size → Sem.wp M Γ t Q E p s →
  Sem.wp M Γ t (fun a p' s' => n ≤ s'.heap.objs.size ∧ Q a p' s') (fun e p' s' => n ≤ s'.heap.objs.size ∧ E e p' s') p s := by
 induction t with
 | pure a => intro Q E p s hn h; exact ⟨hn, h⟩
 | raise e => intro Q E p s hn h; exact ⟨hn, h⟩
 | unsupported _ => intro Q E p s _ h; exact h
 | finish _ => intro Q E p s _ h; exact h
 | rule _ k ih => intro Q E p s hn h; exact ih () Q E p s hn h
 | «at» p' k ih => intro Q E p s hn h; exact ih () Q E p' s hn h
 | load a _ k ih => intro Q E p s hn h; obtain ⟨o, ho, h⟩ := h; exact ⟨o, ho, ih o Q E p s hn h⟩
 | update a _ f k ih => intro Q E p s hn h; exact ⟨h.1, ih () Q E p _ (by simp only [Heap.size_update]; exact hn) h.2⟩
 | loadIfAlive a k ih => intro Q E p s hn h; exact ih _ Q E p s hn h
 | point _ k ih => intro Q E p s hn h; exact ih () Q E p s hn h
 | register _ _ => intro Q E p s _ h; exact h
 | alloc o k ih => intro Q E p s hn h; exact ih _ Q E p _ (by simp only [Heap.size_push]; lia) h
 | fresh k ih => intro Q E p s hn h; exact ih _ Q E p _ hn h
 | ask k ih => intro Q E p s hn h; exact ih _ Q E p s hn h
 | choose src m k ih => intro Q E p s hn h; exact ⟨h.1, ih _ Q E p _ hn h.2⟩
 | os q _ k ih => intro Q E p s hn h; exact ih _ Q E p _ hn h
 | call c hd _ _ k ih => intro Q E p s hn h; obtain ⟨r, s', hr, h⟩ := h; exact ⟨r, s', hr, ih r Q E p s' (Nat.le_trans hn (runs_size hr)) h⟩
 | handled own k ih => intro Q E p s hn h; exact ih _ Q E p s hn h
 | genState g k ih => intro Q E p s hn h; obtain ⟨st, hs, h⟩ := h; exact ⟨st, hs, ih _ Q E p s hn h⟩
 | newGen c k ih => intro Q E p s hn h; exact ih _ Q E p _ hn h
 | resume g r _ k ih => intro Q E p s hn h; obtain ⟨res, s', hw, h⟩ := h; exact ⟨res, s', hw, ih res Q E p s' (Nat.le_trans hn (wakes_size hw)) h⟩
 | yield _ _ _ _ => intro Q E p s _ h; exact h
 | stack k ih => intro Q E p s hn h; exact ih _ Q E p s hn h
 | fork _ _ => intro Q E p s _ h; exact h
 | thread k ih => intro Q E p s hn h; exact ih _ Q E p s hn h
 | await _ _ _ _ _ => intro Q E p s _ h; exact h
theorem with_size {α : Type} {M : Model} {A : Around} {s : Shared} {t : Sem α} {Q : α → Shared → Prop} {E : Value → Shared → Prop} (h : wpAny M A t (fun a s' => s.heap.objs.size ≤ s'.heap.objs.size → Q a s') E s) : wpAny M A t Q E s :=
 have h' : wpAny M A t (fun a s' => s.heap.objs.size ≤ s'.heap.objs.size ∧ (s.heap.objs.size ≤ s'.heap.objs.size → Q a s')) (fun e s' => s.heap.objs.size ≤ s'.heap.objs.size ∧ E e s') s :=
  fun Γ p hΓ => wp_size M Γ s.heap.objs.size t _ _ p s (Nat.le_refl _) (h Γ p hΓ)
 wpAny_mono h' (fun _ _ x => x.2 x.1) fun _ _ x => x.2
end Mine
namespace Mine
open PySem PySem.W PyProof.Rows PySem.Calls PySem.Spec PySem.SeqAt
section
variable {C : Cx} {n : Nat} {A : Around} {ι ι' : List Addr} {σ σ' σ₁ σ₂ σ₃ : MH} {s s' : Shared} {i j ep eq : Nat} {v v₁ v₂ : MV} {xs ys vs : List MV} {es fs : List (MV × MV)} {rv : Value} {h h' : Heap} {Cl fI : Addr} {ρ : List (Nat × MV)}
theorem CallEv.lenT (hz : xs.length ≤ 64) : CallEv C n (.builtin "len") [.tup xs] σ (.int xs.length) σ := by
 intro A ι s rvs r R V
 obtain ⟨x, rfl, h1⟩ := vr1 V
 obtain ⟨t, items, k, rfl, ho, hx⟩ := h1
 have hsz : items.size = xs.length := by rw [← Array.length_toList]; exact hx.length
 exact PyProof.Rows.len_tuple ⟨_, ho, rfl, k, rfl⟩ (by lia) (post_here R (by rw [hsz]; exact ⟨_, rfl⟩))
theorem CallEv.lenD (hi : σ[i]? = some (.dict ep es)) : CallEv C n (.builtin "len") [.loc i] σ (.int es.length) σ := by
 intro A ι s rvs r R V
 obtain ⟨x, rfl, h1⟩ := vr1 V
 obtain ⟨d, o, ds, rfl, hl, ho, hc, K, hd, X, hz⟩ := R.dict h1 hi
 rw [sizeLine_eq] at hz
 have hsz : ds.size = es.length := by rw [← Array.length_toList, X.length]
 have hT : s.TypeIs (.ref d) "dict" := ⟨o, ho, hc.1⟩
 refine Calls.call_function_entry kind_len plain_len entry_len (args_len1 _) ?_
 unfold Builtin.«len»
 refine wpAny_bind (m := oneArg "len" _) (wpAny_pure ?_)
 refine wpAny_bind (m := callSpecial? (.ref d) (Str.ofString "__len__")) (wpAny_callSpecial?_slot (name := Str.ofString "__len__") hT PySem.F.slot_dict_len
  (wpAny_call_entry PySem.F.slot_dict_len hT PySem.F.entry_dict_len ?_ (PySem.F.args_dict_len_1 _)))
 show wpAny _ _ (dictSize d >>= _) _ _ s
 unfold dictSize
 refine wpAny_bind (wpAny_bind (wpAny_dictEntries ho hd (wpAny_pure ?_)))
 show wpAny _ _ (Builtin.Dict.pendingCount d >>= _) _ _ s
 refine wpAny_bind (wpAny_pendingCount_other (R.noSys (List.mem_of_getElem? hl)) ?_)
 refine wpAny_ret_mkInt ?_
 have e0 : ((ds.size : Nat) : Int) + ((0 : Nat) : Int) = ((ds.size : Nat) : Int) := by lia
 rw [e0]
 show wpAny _ _ _ _ _ { s with toks := s.toks + 1 }
 refine wpAny_bind (wpAny_holding (wpAny_pure ?_))
 refine wpAny_bind (wpAny_letGo ?_)
 show wpAny _ _ (if ((ds.size : Nat) : Int) < 0 then _ else _) _ _ _
 rw [if_neg (by lia)]
 show wpAny _ _ (if ((ds.size : Nat) : Int) ≥ 2 ^ 63 then _ else _) _ _ _
 rw [if_neg (by lia)]
 exact wpAny_bind (wpAny_mkInt (wpAny_pure ⟨_, rfl, post_here R (by rw [hsz]; exact ⟨_, rfl⟩)⟩))
theorem CallEv.max2 {a b : Int} : CallEv C n (.builtin "max") [.int a, .int b] σ (.int (if b > a then b else a)) σ := by
 intro A ι s rvs r R V
 obtain ⟨x, y, rfl, h1, h2⟩ := vr2 V
 obtain ⟨t, rfl⟩ := vrInt h1
 obtain ⟨u, rfl⟩ := vrInt h2
 refine with_size (max_two_ints r.1 fun h' tk hk hsz => ?_)
 refine ⟨ι, R.same hk hsz, ?_, .same hk hsz, rfl, rfl⟩
 split <;> exact ⟨_, rfl⟩
theorem Op.mulL {k : Int} (hi : σ[i]? = some (.list xs)) (h0 : 0 ≤ k) (hk : k ≤ 1000) (hz : xs.length ≤ 64) : Op C n [.loc i, .int k] σ (binF .Mult) (.loc σ.length) (σ ++ [.list (List.replicate k.toNat xs).flatten]) := by
 intro A ι s rvs r R V
 obtain ⟨x, y, rfl, h1, h2⟩ := vr2 V
 obtain ⟨u, rfl⟩ := vrInt h2
 obtain ⟨l, items, m, rfl, hl, ho, hx, _, hsz⟩ := R.isL h1 hi
 have hb : items.size * k.toNat ≤ 64 * 1000 := Nat.mul_le_mul (by lia) (by lia)
 have hy : VRs ι s.heap (List.replicate k.toNat xs).flatten (List.replicate k.toNat items.toList).flatten := by
  generalize k.toNat = q
  induction q with
  | zero => exact .nil
  | succ q ih => rw [List.replicate_succ, List.replicate_succ, List.flatten_cons, List.flatten_cons]; exact hx.append ih
 have hlen : (List.replicate k.toNat xs).flatten.length ≤ sizeLine := by
  rw [← hy.length]
  simp [sizeLine_eq]
  rw [Nat.mul_comm]; lia
 have hp := post_list (C := C) R hy hlen
 refine wpAny_binaryOp_repeat_ref (T := "list") (U := "int") (by decide) ⟨_, ho, rfl⟩ (fun s' => typeIs_int s' k u) noFill_list_mul PySem.F.fills_int_mul PySem.F.slot_int_rmul repeat_list PySem.F.slot_int_index.lookup
  (call_meets PySem.F.slot_int_rmul (typeIs_int s k u) PySem.F.entry_int_rmul (PySem.F.args_int_rmul_2 _ _) (int___rmul___int_list k u l items m)
   ⟨ho, rfl, ⟨_, ho, rfl⟩, call_meets PySem.F.slot_list_mul ⟨_, ho, rfl⟩ PySem.F.entry_list_mul (PySem.F.args_list_mul_2 _ _)
    (AutoListH.list___mul___list_int_3 l items m k u (by simp [Builtin.List.listFitsIndex]; lia) (by lia) (by simp [Builtin.List.listTooLong, sizeLine]; lia))
    ⟨ho, ?_⟩⟩)
 rw [listMul_foldl_if]
 exact hp
end
end Mine
namespace Mine
open PySem PySem.W PyProof.Rows PySem.Calls PySem.Spec PySem.SeqAt
section
variable {C : Cx} {n : Nat} {A : Around} {ι ι' : List Addr} {σ σ' σ₁ σ₂ σ₃ : MH} {s s' : Shared} {i j ep eq : Nat} {v v₁ v₂ : MV} {xs ys vs : List MV} {es fs : List (MV × MV)} {rv : Value} {h h' : Heap} {Cl fI : Addr} {ρ : List (Nat × MV)}
theorem CallEv.isTup : CallEv C n (.builtin "isinstance") [.tup xs, .raw (.type "tuple")] σ (.bool true) σ := by
 intro A ι s rvs r R V
 obtain ⟨x, y, rfl, h1, h2⟩ := vr2 V
 obtain ⟨t, items, k, rfl, ho, _⟩ := h1
 cases (h2 : _ = _)
 exact IsiPair.tuple_tuple ho rfl ⟨ι, R, by first | exact rfl | exact ⟨_, rfl⟩, .refl ..⟩
theorem CallEv.noneTup : CallEv C n (.builtin "isinstance") [.none, .raw (.type "tuple")] σ (.bool false) σ := by
 intro A ι s rvs r R V
 obtain ⟨x, y, rfl, h1, h2⟩ := vr2 V
 cases (h1 : _ = _); cases (h2 : _ = _)
 exact IsiPair.NoneType_tuple (post_here R (by first | exact rfl | exact ⟨_, rfl⟩))
theorem CallEv.intTup {k : Int} : CallEv C n (.builtin "isinstance") [.int k, .raw (.type "tuple")] σ (.bool false) σ := by
 intro A ι s rvs r R V
 obtain ⟨x, y, rfl, h1, h2⟩ := vr2 V
 obtain ⟨t, rfl⟩ := h1; cases (h2 : _ = _)
 exact IsiPair.int_tuple (post_here R (by first | exact rfl | exact ⟨_, rfl⟩))
theorem CallEv.bytesTup {b : Array UInt8} : CallEv C n (.builtin "isinstance") [.bytes b, .raw (.type "tuple")] σ (.bool false) σ := by
 intro A ι s rvs r R V
 obtain ⟨x, y, rfl, h1, h2⟩ := vr2 V
 obtain ⟨t, rfl⟩ := h1; cases (h2 : _ = _)
 have key : Meets (Builtin.«isinstance» ⟨[.bytes b t, .type "tuple"], []⟩) (fun _ R s => R (.ok (.ret (.bool false))) { s with toks := s.toks + 1 }) := fun _ _ _ _ s hs => by
  obtain ⟨h, g, d, t, os⟩ := s
  exact isinstance_outer (isinstance_nested_false_bytes (by decide +kernel) PySem.F.isi_meta_tuple (by rw [isSubtype_type]; kernel_rfl) hs)
 exact call_isinstance key (post_here R (by first | exact rfl | exact ⟨_, rfl⟩))
noncomputable def sumI : List Int → Int
 | [] => 0
 | x :: xs => x + sumI xs
theorem sumI_pre (val : Nat → Int) : ∀ (xs : List Int) (k : Nat), (∀ j, j < xs.length → xs[j]? = some (val (k + j))) → preSum val (k + xs.length) = preSum val k + sumI xs
 | [], k, _ => by simp [sumI]
 | x :: xs, k, h => by
  have h0 := h 0 (by simp)
  simp at h0
  have := sumI_pre val xs (k + 1) fun j hj => by
   have := h (j + 1) (by simp; lia)
   rw [List.getElem?_cons_succ] at this
   rw [this]; congr 2; lia
  have e : k + (x :: xs).length = k + 1 + xs.length := by simp; lia
  rw [e, this, preSum, sumI, ← h0]; lia
theorem CallEv.sumL {ns : List Int} (hi : σ[i]? = some (.list (ns.map MV.int))) : CallEv C n (.builtin "sum") [.loc i] σ (.int (sumI ns)) σ := by
 intro A ι s rvs r R V
 obtain ⟨x, rfl, h1⟩ := vr1 V
 obtain ⟨l, items, k, rfl, hl, ho, hx, _, hsz⟩ := R.isL h1 hi
 have hL : s.heap.IsList l items := ⟨_, ho, rfl, k, rfl⟩
 have hlt := Heap.lt_size ho
 refine with_size (call_sum_walkG (wpAny_pyIter_list hL ?_))
 have hval : ∀ (j : Nat) (v : Value), items[j]? = some v → ∃ t, v = .int (ns.getD j 0) t := fun j v hv => by
  have hj : j < ns.length := by
   have h2 := (Array.getElem?_eq_some_iff.mp hv).1
   rw [hsz] at h2; simpa using h2
  obtain ⟨v', h2, h3⟩ := hx.get (i := j) (x := MV.int ns[j]) (by simp [hj])
  rw [Array.getElem?_toList, hv] at h2
  cases h2
  obtain ⟨t, rfl⟩ := h3
  exact ⟨t, by simp [hj]⟩
 refine ⟨_, _, _, _, _, _, fun j => ns.getD j 0, rfl, Walks.list (A := A.in1) r.1 _ l (Nat.ne_of_lt hlt) items, ⟨⟨_, Heap.get?_push_size _ rfl, rfl, rfl⟩, hL.push _⟩, fun b hb => ?_, hval, fun h' tk t' hk hz => ?_⟩
 ·simp at hb
  rcases hb with rfl | rfl
  ·simp
  ·show b < (s.heap.push _).objs.size
   rw [Heap.size_push]; exact Nat.lt_succ_of_lt hlt
 ·have hk' : ∀ b o, s.heap.get? b = some o → h'.get? b = some o := fun b o e => hk b o (by simpa using Nat.ne_of_lt (Heap.lt_size e)) (Heap.get?_push_of_some _ e)
  refine ⟨ι, R.same hk' hz, ?_, .same hk' hz, rfl, rfl⟩
  refine ⟨t', ?_⟩
  have := sumI_pre (fun j => ns.getD j 0) ns 0 fun j hj => by simp [hj]
  rw [hsz, List.length_map]
  rw [Nat.zero_add] at this
  rw [this]; simp [preSum]
theorem Ev.rev {e : IE} (he : Ev C n e ρ σ (.loc i) σ₁) (hi : σ₁[i]? = some (.list xs)) : Ev C n (.rev e) ρ σ (.loc σ₁.length) (σ₁ ++ [.list xs.reverse]) := by
 intro F x A ι s hc ok r hA
 replace hc := onSubscript_inv hc; obtain ⟨y, sl, p4, rfl, hc⟩ := hc
 obtain ⟨c1, c2⟩ := Mine.and2 hc
 obtain ⟨k, p1, p2, p3, rfl⟩ := isRev_inv c2
 refine Subscript_ (wpAny_mono (he F y A ι s c1 ok r hA) (fun ov s₁ p => ?_) fun _ _ z => z)
 obtain ⟨ι₁, R₁, V₁, S₁⟩ := p
 have A₁ := hA.step ok R₁ S₁.heap
 refine wpAny_Slice ?_
 rw [evalPart_none]
 refine wpAny_pure (wpAny_pure ?_)
 rw [evalPart_some]
 have hn := Ev.neg (C := C) (n := n) (ρ := ρ) (σ := σ₁) (Ev.lit (v := .int 1)) F (.UnaryOp .USub (.Constant (.int 1) k p1) p2) A ι₁ s₁ (show decide ((1 : Int) = 1) = true from by decide) ok r A₁
 refine wpAny_mono hn (fun st s₂ p => ?_) fun _ _ z => z
 obtain ⟨ι₂, R₂, V₂, S₂⟩ := p
 obtain ⟨tk, rfl⟩ := V₂
 have V₁' := V₁.step R₁ .nil S₂.heap
 obtain ⟨l, items, m, rfl, hl, ho, hx, hz, hsz⟩ := R₂.isL V₁' hi
 have ho' : (s₂.heap.push { cls := .type "slice", data := .fields #[.none, .none, .int (-1) tk] }).get? l = some ({ cls := .type "list", data := .seq items m } : Obj) := Heap.get?_push_of_some _ ho
 refine tail_any (s := { s₂ with heap := s₂.heap.push { cls := .type "slice", data := .fields #[.none, .none, .int (-1) tk] } }) ⟨_, ho', rfl⟩ slot_list_getitem.lookup (wpAny_getItem_list_slice (s := { s₂ with heap := s₂.heap.push { cls := .type "slice", data := .fields #[.none, .none, .int (-1) tk] } }) ⟨_, ho', rfl, m, rfl⟩ (Heap.IsSliceOf.new ..) .none .none (.int (-1) tk) (by decide) ?_ (by rw [hsz]; exact hz)) (ops := [.ref l, .ref s₂.heap.objs.size]) (by with_unfolding_all rfl)
 rw [krv_pick]
 have R₃ : Rel C ι₂ σ₁ (s₂.heap.push { cls := .type "slice", data := .fields #[.none, .none, .int (-1) tk] }) := R₂.push _
 have S₃ : Stp [] ι₂ s₂ ι₂ { s₂ with heap := s₂.heap.push { cls := .type "slice", data := .fields #[.none, .none, .int (-1) tk] } } := stp_push _
 obtain ⟨ι₄, R₄, V₄, S₄⟩ := post_list (C := C) (s := { s₂ with heap := s₂.heap.push { cls := .type "slice", data := .fields #[.none, .none, .int (-1) tk] } }) R₃ ((hx.step R₂ .nil S₃.heap).reverse) (by simpa using hz)
 exact ⟨ι₄, R₄, V₄, S₁.trans (S₂.trans (S₃.trans S₄))⟩
end
end Mine
namespace Mine
open PySem PySem.W PyProof.Rows PySem.Calls PySem.Spec PySem.SeqAt
section
variable {C : Cx} {n : Nat} {A : Around} {ι ι' : List Addr} {σ σ' σ₁ σ₂ σ₃ : MH} {s s' : Shared} {i j ep eq : Nat} {v v₁ v₂ : MV} {xs ys vs : List MV} {es fs : List (MV × MV)} {rv : Value} {h h' : Heap} {Cl fI : Addr} {ρ : List (Nat × MV)}
theorem Ev.dict0 : Ev C n (.dict [] []) ρ σ (.loc σ.length) (σ ++ [.dict 0 []]) := by
 intro F x A ι s hc ok r hA
 replace hc := onDict_inv hc; obtain ⟨kx, vx, pos, rfl, hc⟩ := hc
 obtain ⟨c1, c2, _⟩ := and4 hc
 have := nil_inv c1; subst this
 have := nil_inv c2; subst this
 exact wpAny_Dict_empty (post_dict hA.rel)
inductive EvP (C : Cx) (n : Nat) (ρ : List (Nat × MV)) : List IE → List IE → MH → List (MV × MV) → MH → Prop where
 | nil {σ : MH} : EvP C n ρ [] [] σ [] σ
 | cons {k v : IE} {ks vs : List IE} {kv vv : MV} {r : List (MV × MV)} {σ σ₁ σ₂ σ₃ : MH} : Ev C n k ρ σ kv σ₁ → Ev C n v ρ σ₁ vv σ₂ → EvP C n ρ ks vs σ₂ r σ₃ → EvP C n ρ (k :: ks) (v :: vs) σ ((kv, vv) :: r) σ₃
inductive DSt : MO → List (MV × MV) → MO → Prop where
 | nil {o : MO} : DSt o [] o
 | cons {ep : Nat} {es : List (MV × MV)} {k v : MV} {r : List (MV × MV)} {o : MO} : Fits es k → es.length < sizeLine → DSt (dsto ep es k v) r o → DSt (.dict ep es) ((k, v) :: r) o
noncomputable def PRs (ι : List Addr) (h : Heap) : List (MV × MV) → List (Value × Value) → Prop
 | [], l => l = []
 | (k, v) :: r, l => E3 fun rk rv l' => N4 (l = (rk, rv) :: l') (VR ι h k rk) (VR ι h v rv) (PRs ι h r l')
theorem PRs.step {σ : MH} : ∀ {ps : List (MV × MV)} {l : List (Value × Value)}, PRs ι h ps l → Rel C ι σ h → Step [] ι h ι' h' → PRs ι' h' ps l
 | [], _, e, _, _ => e
 | (k, v) :: r, l, e, R, S => by
  obtain ⟨rk, rv, l', h1, h2, h3, h4⟩ := e
  exact ⟨rk, rv, l', h1, h2.step R .nil S, h3.step R .nil S, PRs.step h4 R S⟩
theorem pairs_R {F : Frm} {pos : Pos} (ok : FrmOk C F) (r : Room A n) {ks vs : List IE} {ps : List (MV × MV)} {σ σ' : MH} (h : EvP C n ρ ks vs σ ps σ') : ∀ {kx : List (Option Expr)} {vx : List Expr} {ι : List Addr} {s : Shared}, chkks F.env.scope.names ks kx = true → chks F.env.scope.names vs vx = true → At C F ι σ ρ s.heap →
  wpAny (model C.prog C.w) A (evalPairs (pairTrees kx vx F.env pos)) (fun l s' => E1 fun ι' => N3 (Rel C ι' σ' s'.heap) (PRs ι' s'.heap ps l) (Stp [] ι s ι' s')) (fun _ _ => False) s := by
 induction h with
 | nil =>
  intro kx vx ι s hk hv hA
  have := nil_inv hk; subst this
  have := nil_inv hv; subst this
  exact wpAny_pure ⟨ι, hA.rel, rfl, .refl ..⟩
 | cons h1 h2 h3 ih =>
  intro kx vx ι s hk hv hA
  replace hk := onCons_inv hk; obtain ⟨k, ks, rfl, hk⟩ := hk
  replace hk := and2 hk; obtain ⟨hk1, hk2⟩ := hk
  replace hk1 := onSome_inv hk1; obtain ⟨k, rfl, hk1⟩ := hk1
  replace hv := onCons_inv hv; obtain ⟨v, vs, rfl, hv⟩ := hv
  replace hv := and3 hv
  show wpAny _ _ (evalPairs ((eval k F.env, do let x ← eval v F.env; standAt pos; pure x) :: pairTrees ks vs F.env pos)) _ _ _
  unfold evalPairs
  refine wpAny_bind (wpAny_mono (h1 F k A ι s hk1 ok r hA) (fun rk s₁ p => ?_) fun _ _ z => z)
  obtain ⟨ι₁, R₁, V₁, S₁⟩ := p
  have A₁ := hA.step ok R₁ S₁.heap
  refine wpAny_bind (wpAny_holding (wpAny_bind (wpAny_mono (h2 F v A ι₁ s₁ hv.1 ok r A₁) (fun rv s₂ p => wpAny_bind (wpAny_standAt (wpAny_pure ?_))) fun _ _ z => z)))
  obtain ⟨ι₂, R₂, V₂, S₂⟩ := p
  refine wpAny_bind (wpAny_holding (wpAny_mono (ih hk2 hv.3 (A₁.step ok R₂ S₂.heap)) (fun l s₃ p => wpAny_pure ?_) fun _ _ z => z))
  obtain ⟨ι₃, R₃, P₃, S₃⟩ := p
  exact ⟨ι₃, R₃, ⟨rk, rv, l, rfl, (V₁.step R₁ .nil S₂.heap).step R₂ .nil S₃.heap, V₂.step R₂ .nil S₃.heap, P₃⟩, S₁.trans (S₂.trans S₃)⟩
theorem set_same {σ : MH} {j : Nat} {o : MO} (ho : σ[j]? = some o) : σ.set j o = σ := by
 apply List.ext_getElem?
 intro k
 by_cases hk : j = k
 ·subst hk; rw [List.getElem?_set_self (List.getElem?_eq_some_iff.mp ho).1, ho]
 ·rw [List.getElem?_set_ne hk]
theorem stores_R (r : Room A n) {d : Addr} {ps : List (MV × MV)} {o o' : MO} (h : DSt o ps o') : ∀ {l : List (Value × Value)} {σ : MH} {ι : List Addr} {s : Shared}, Rel C ι σ s.heap → ι[j]? = some d → σ[j]? = some o → PRs ι s.heap ps l →
  wpAny (model C.prog C.w) A (storeAll d l) (fun _ s' => PostU C ι s (σ.set j o') s') (fun _ _ => False) s := by
 induction h with
 | nil =>
  intro l σ ι s R hd ho hp
  have hp : _ = _ := hp; subst hp
  rw [set_same ho]
  exact wpAny_pure ⟨ι, R, .refl ..⟩
 | cons hf hz hr ih =>
  intro l σ ι s R hd ho hp
  obtain ⟨rk, rv, l', rfl, h1, h2, h3⟩ := hp
  unfold storeAll
  rw [List.forIn_cons]
  obtain ⟨d', ob, ds, e, hl, hob, hc, K, hdat, X, _⟩ := R.dict (rv := .ref d) ⟨d, rfl, hd⟩ ho
  cases e
  refine wpAny_bind (wpAny_bind (dictSet_R r R hl hob hc K hdat X hf h1 h2 hz fun s₁ p => wpAny_pure ?_))
  obtain ⟨ι₁, R₁, S₁⟩ := p
  refine wpAny_mono (ih R₁ (S₁.heap.get? hd) (List.getElem?_set_self (List.getElem?_eq_some_iff.mp ho).1) (h3.step R S₁.heap)) (fun _ s₂ p => ?_) fun _ _ z => z
  obtain ⟨ι₂, R₂, S₂⟩ := p
  rw [List.set_set] at R₂
  exact ⟨ι₂, R₂, S₁.trans S₂⟩
theorem chkks_all {ns : Names} : ∀ {ks : List IE} {kx : List (Option Expr)}, chkks ns ks kx = true → kx.all (·.isSome) = true ∧ kx.length = ks.length
 | [], _, h => by rw [nil_inv h]; exact ⟨rfl, rfl⟩
 | k :: ks, _, h => by
  replace h := onCons_inv h; obtain ⟨k, kx, rfl, h⟩ := h
  obtain ⟨h1, h2⟩ := and2 h
  replace h1 := onSome_inv h1; obtain ⟨k, rfl, _⟩ := h1
  exact (chkks_all h2).imp id (congrArg Nat.succ)
theorem Ev.dict {ks vs : List IE} {ps : List (MV × MV)} {o : MO} (hp : EvP C n ρ ks vs (σ ++ [.dict 0 []]) ps σ₁) (ho : σ₁[σ.length]? = some (.dict 0 [])) (hs : DSt (.dict 0 []) ps o) (hne : ks ≠ [] := by simp) :
  Ev C n (.dict ks vs) ρ σ (.loc σ.length) (σ₁.set σ.length o) := by
 intro F x A ι s hc ok r hA
 replace hc := onDict_inv hc; obtain ⟨kx, vx, pos, rfl, hc⟩ := hc
 obtain ⟨c1, c2, c3, c4⟩ := and4 hc
 obtain ⟨h1, h2⟩ := chkks_all c1
 have hS : Post C ι s (.loc σ.length) (σ ++ [.dict 0 []]) (.ref s.heap.objs.size) { s with heap := s.heap.push { cls := .type "dict", data := .dict #[] } } := post_dict hA.rel
 obtain ⟨ι₀, R₀, V₀, S₀⟩ := hS
 obtain ⟨d, hde, hd⟩ := V₀
 injection hde with hde
 subst hde
 refine wpAny_Dict_any h1 (of_decide_eq_true c3) (fun q => hne (List.length_eq_zero_iff.mp (by rw [← h2, q]; rfl))) (of_decide_eq_true c4) ?_
 refine wpAny_mono (pairs_R (s := { s with heap := s.heap.push { cls := .type "dict", data := .dict #[] } }) ok r hp c1 c2 (hA.step ok R₀ S₀.heap)) (fun l s₁ p => ?_) fun _ _ z => z
 obtain ⟨ι₁, R₁, P₁, S₁⟩ := p
 refine wpAny_mono (stores_R r hs R₁ (S₁.heap.get? hd) ho P₁) (fun _ s₂ p => ?_) fun _ _ z => z
 obtain ⟨ι₂, R₂, S₂⟩ := p
 exact ⟨ι₂, R₂, ⟨_, rfl, S₂.heap.get? (S₁.heap.get? hd)⟩, S₀.trans (S₁.trans S₂)⟩
end
end Mine
namespace Mine
open PySem PySem.W PyProof.Rows PySem.Calls PySem.Spec PySem.SeqAt
section
variable {C : Cx} {n : Nat} {A : Around} {ι ι' : List Addr} {σ σ' σ₁ σ₂ σ₃ : MH} {s s' : Shared} {i j ep ep' : Nat} {v v₁ v₂ : MV} {xs ys vs : List MV} {es fs : List (MV × MV)} {rv : Value} {h h' : Heap} {ρ : List (Nat × MV)}
noncomputable def Atoms (C : Cx) (ι : List Addr) (h : Heap) : List (MV × MV) → List (Atom × Value) → Prop
 | [], l => l = []
 | (k, v) :: r, l => E3 fun a rv l' => N4 (l = (a, rv) :: l') (atomOf k = some a) (VR ι h v rv) (Atoms C ι h r l')
theorem Atoms.of : ∀ {es : List (MV × MV)} {ds : List DictEntry}, ER C ι h es ds → (∀ e ∈ es, e.1.isAtom) → ∃ kvs, Atoms C ι h es kvs ∧ Pairs (atomKind C.prog C.w) ds kvs
 | [], ds, X, _ => by have X : _ = _ := X; subst X; exact ⟨[], rfl, .nil⟩
 | (k, v) :: r, ds, X, ha => by
  obtain ⟨e, es', rfl, h1, h2, h3, h4⟩ := X
  obtain ⟨a, hk⟩ := ha (k, v) (by simp)
  obtain ⟨kvs, p1, p2⟩ := Atoms.of h4 fun e he => ha e (by simp [he])
  exact ⟨(a, e.val) :: kvs, ⟨a, e.val, kvs, rfl, hk, h3, p1⟩, .cons (h2.atom hk) rfl p2⟩
theorem Atoms.length : ∀ {es : List (MV × MV)} {l : List (Atom × Value)}, Atoms C ι h es l → l.length = es.length
 | [], l, p => by simp only [Atoms] at p; subst p; rfl
 | (k, v) :: r, l, p => by obtain ⟨a, rv, l', rfl, _, _, q⟩ := p; simp [Atoms.length q]
theorem Atoms.keys : ∀ {es : List (MV × MV)} {l : List (Atom × Value)}, Atoms C ι h es l → l.map (fun p => some p.1) = es.map (fun e => atomOf e.1)
 | [], l, p => by simp only [Atoms] at p; subst p; rfl
 | (k, v) :: r, l, p => by obtain ⟨a, rv, l', rfl, h1, _, q⟩ := p; simp [Atoms.keys q, h1]
theorem Atoms.nodup : ∀ {es : List (MV × MV)} {l : List (Atom × Value)}, Atoms C ι h es l → (es.map (·.1)).Nodup → (l.map (·.1)).Nodup
 | [], l, p, _ => by simp only [Atoms] at p; subst p; simp
 | (k, v) :: r, l, p, hn => by
  obtain ⟨a, rv, l', rfl, h1, _, q⟩ := p
  rw [List.map_cons, List.nodup_cons] at hn ⊢
  refine ⟨fun hm => hn.1 ?_, Atoms.nodup q hn.2⟩
  obtain ⟨⟨b, u⟩, hb, e⟩ := List.mem_map.mp hm
  simp only at e
  have hm' : some a ∈ l'.map (fun p => some p.1) := List.mem_map.mpr ⟨(b, u), hb, by rw [e]⟩
  rw [Atoms.keys q] at hm'
  obtain ⟨e', he', ea⟩ := List.mem_map.mp hm'
  exact List.mem_map.mpr ⟨e', he', atomOf_inj ea h1⟩
theorem Atoms.value {k : MV} {a : Atom} (ha : atomOf k = some a) : ∀ {es : List (MV × MV)} {l : List (Atom × Value)}, Atoms C ι h es l → match dget es k with
  | some v => ∃ rv, valueAt l a = some rv ∧ VR ι h v rv
  | none => valueAt l a = none
 | [], l, p => by simp only [Atoms] at p; subst p; simp [dget, valueAt]
 | (k', v) :: r, l, p => by
  obtain ⟨b, rv, l', rfl, h1, h2, q⟩ := p
  have ih := Atoms.value ha q
  by_cases hb : b = a
  ·have hk : k' = k := atomOf_inj h1 (hb ▸ ha)
   subst hk
   simp [dget, valueAt, MV.beq_refl, hb, h2]
  ·have hk : MV.beq k' k = false := MV.beq_false.mpr fun e => by rw [e, ha] at h1; exact hb (Option.some.inj h1).symm
   have e1 : dget ((k', v) :: r) k = dget r k := by simp [dget, hk]
   have e2 : valueAt ((b, rv) :: l') a = valueAt l' a := by simp [valueAt, hb]
   rw [e1, e2]; exact ih
noncomputable def allIn (eb : List (MV × MV)) : List (MV × MV) → Bool
 | [] => true
 | (k, v) :: r => (match dget eb k with | some u => v.beq u | none => false) && allIn eb r
noncomputable def isB (v : MV) : Bool := match v with | .bool _ => true | _ => false
theorem eqv_bool (a b : Bool) : PyData.eqv (.bool a) (.bool b) = (a == b) := by cases a <;> cases b <;> rfl
theorem hits_R {kb : List (Atom × Value)} {eb : List (MV × MV)} (pb : Atoms C ι s.heap eb kb) (hb : ∀ e ∈ eb, isB e.2 = true) : ∀ {ea : List (MV × MV)} {ka : List (Atom × Value)}, Atoms C ι s.heap ea ka → (∀ e ∈ ea, isB e.2 = true) → KeqHits A s kb ka (allIn eb ea)
 | [], ka, p, _ => by simp only [Atoms] at p; subst p; exact .nil
 | (k, v) :: r, ka, p, hv => by
  obtain ⟨a, rv, l', rfl, h1, h2, q⟩ := p
  have hval := Atoms.value h1 pb
  have ih := hits_R pb hb q fun e he => hv e (by simp [he])
  simp only [allIn]
  cases hg : dget eb k with
  | none => rw [hg] at hval; exact .miss hval
  | some u =>
   rw [hg] at hval
   obtain ⟨ru, g1, g2⟩ := hval
   have hbv := hv (k, v) (by simp)
   have hbu : isB u = true := by
    unfold dget at hg
    obtain ⟨e, he, rfl⟩ := Option.map_eq_some_iff.mp hg
    exact hb e (List.mem_of_find?_eq_some he)
   cases v <;> simp only [isB] at hbv <;> try cases hbv
   cases u <;> simp only [isB] at hbu <;> try cases hbu
   rename_i bv bu
   cases (h2 : _ = _); cases (g2 : _ = _)
   have := keq_flat (A := A) (s := s) (PyProof.V.Flat.bool bv) (PyProof.V.Flat.bool bu)
   rw [eqv_bool] at this
   exact .hit g1 this ih
theorem Op.eqD {fs : List (MV × MV)} (hi : σ[i]? = some (.dict ep es)) (hj : σ[j]? = some (.dict ep' fs)) (ha : ∀ e ∈ es, e.1.isAtom) (hb : ∀ e ∈ fs, e.1.isAtom) (va : ∀ e ∈ es, isB e.2 = true) (vb : ∀ e ∈ fs, isB e.2 = true) :
  Op C n [.loc i, .loc j] σ (cmpF .Eq) (.bool (es.length == fs.length && allIn fs es)) σ ∧ Op C n [.loc i, .loc j] σ (cmpF .NotEq) (.bool (!(es.length == fs.length && allIn fs es))) σ := by
 have core : ∀ (A : Around) (ι : List Addr) (s : Shared) (x y : Value), Rel C ι σ s.heap → VR ι s.heap (.loc i) x → VR ι s.heap (.loc j) y → E4 fun a b ka kb => N9 (x = .ref a) (y = .ref b) ((a == sysModules) = false) ((b == sysModules) = false) (s.heap.DictOf (atomKind C.prog C.w) a ka) (s.heap.DictOf (atomKind C.prog C.w) b kb) (ka.length = es.length) (kb.length = fs.length) (KeqHits A s kb ka (allIn fs es)) := by
  intro A ι s x y R h1 h2
  obtain ⟨d, o, ds, rfl, hl, ho, hc, K, hd, X, _⟩ := R.dict h1 hi
  obtain ⟨d', o', ds', rfl, hl', ho', hc', K', hd', X', _⟩ := R.dict h2 hj
  obtain ⟨ka, p1, p2⟩ := Atoms.of X ha
  obtain ⟨kb, q1, q2⟩ := Atoms.of X' hb
  have keysOf : ∀ {es : List (MV × MV)} {ds : Array DictEntry}, ER C ι s.heap es ds.toList → (∀ e ∈ es, e.1.isAtom) → KeysOf (atomKind C.prog C.w) ds := fun {es ds} X hall e he => by
   obtain ⟨j, hj⟩ := List.mem_iff_getElem?.mp (Array.mem_toList_iff.mpr he)
   have hlt : j < es.length := by rw [← X.length]; exact (List.getElem?_eq_some_iff.mp hj).1
   obtain ⟨e', h1, h2, h3, h4⟩ := X.get (i := j) (k := es[j].1) (v := es[j].2) (List.getElem?_eq_getElem hlt)
   rw [hj] at h1; cases h1
   obtain ⟨b, hb⟩ := hall es[j] (List.getElem_mem hlt)
   exact ⟨b, h3.atom hb, by rw [h2, keyHash_atom hb]; rfl⟩
  exact ⟨d, d', ka, kb, rfl, rfl, R.noSys (List.mem_of_getElem? hl), R.noSys (List.mem_of_getElem? hl'), ⟨o, ds, ep, ho, hc, hd, keysOf X ha, p2, p1.nodup K.2⟩, ⟨o', ds', ep', ho', hc', hd', keysOf X' hb, q2, q1.nodup K'.2⟩, p1.length, q1.length, hits_R q1 vb p1 va⟩
 constructor
 ·intro A ι s rvs r R V
  obtain ⟨x, y, rfl, h1, h2⟩ := vr2 V
  obtain ⟨a, b, ka, kb, rfl, rfl, g1, g2, g3, g4, g5, g6, g7⟩ := core A.in1 ι s x y R h1 h2
  exact keq_eq g1 g2 g3 g4 (by have := r.units; lia) (fun _ => g7) ⟨ι, R, by rw [g5, g6]; exact rfl, .refl ..⟩
 ·intro A ι s rvs r R V
  obtain ⟨x, y, rfl, h1, h2⟩ := vr2 V
  obtain ⟨a, b, ka, kb, rfl, rfl, g1, g2, g3, g4, g5, g6, g7⟩ := core A.in1 ι s x y R h1 h2
  exact keq_ne g1 g2 g3 g4 (by have := r.units; lia) (fun _ => g7) ⟨ι, R, by rw [g5, g6]; exact rfl, .refl ..⟩
end
end Mine
namespace Mine
open PySem PySem.W PyProof.Rows PySem.Calls
noncomputable def p_objects_within : List IS := [
 .sett [91, 232] (.tup [.list [], .list [.var 230]]),
 .while (.cmp .NotEq (.var 232) (.list [])) [
  .setv 102 (.meth (.var 232) 166 []),
  .ite (.or [.not (.call (.glob 109) [.var 102, .glob 228]), .cmp .Eq (.var 102) (.tup [])]) [
   .cont] [],
  .setv 115 (.sub (.var 102) (.lit (.int 0))),
  .ite (.cmp .In (.var 115) (.glob 17)) [
   .setv 153 (.ite (.call (.glob 109) [.sub (.var 102) (.lit (.int 1)), .glob 228]) (.sub (.sub (.var 102) (.lit (.int 1))) (.lit (.int 0))) (.sub (.var 102) (.lit (.int 1)))),
   .ite (.cmp .NotIn (.var 153) (.var 91)) [
    .expr (.meth (.var 91) 49 [.var 153])] []] [
   .ite (.or [.cmp .Eq (.var 115) (.lit (.str 92)), .cmp .Eq (.var 115) (.lit (.str 86))]) [
    .expr (.meth (.var 232) 85 [.ite (.cmp .Eq (.var 115) (.lit (.str 92))) (.rev (.call (.glob 124) [.sub (.var 102) (.lit (.int 2))])) (.list [.sub (.var 102) (.lit (.int 2))])])] [
    .ite (.or [.cmp .Eq (.var 115) (.lit (.str 211)), .cmp .Eq (.var 115) (.lit (.str 50))]) [
     .expr (.meth (.var 232) 85 [.rev (.call (.glob 124) [.sub (.var 102) (.lit (.int 1))])])] []]]],
 .ret (.var 91)]
noncomputable def p_objects_within_ps : List Nat := [230]
noncomputable def p_Summary_init : List IS := [
 .seta (.var 199) 121 (.dict [] []),
 .seta (.var 199) 113 (.dict [] []),
 .seta (.var 199) 225 (.dict [] [])]
noncomputable def p_Summary_init_ps : List Nat := [199]
noncomputable def p_Summary_told_by : List IS := [
 .ret (.meth (.attr (.var 199) 225) 201 [.var 52, .dict [] []])]
noncomputable def p_Summary_told_by_ps : List Nat := [199, 52]
noncomputable def p_EscapeFlow_init : List IS := [
 .seta (.var 199) 71 (.var 71),
 .seta (.var 199) 213 (.var 213),
 .seta (.var 199) 101 (.dict [] []),
 .seta (.var 199) 104 (.dict [] []),
 .seta (.var 199) 203 (.dict [] []),
 .seta (.var 199) 97 (.dict [] []),
 .seta (.var 199) 214 (.call (.glob 18) []),
 .seta (.var 199) 108 (.lit (.bool false)),
 .for (.v 177) (.call (.glob 171) [.bin .Add (.attr (.var 71) 62) (.attr (.var 71) 164)]) [
  .seti (.attr (.var 199) 101) (.var 177) (.dict [.tup [.lit (.str 162), .var 177]] [.lit (.bool true)])]]
noncomputable def p_EscapeFlow_init_ps : List Nat := [199, 71, 213]
noncomputable def p_EscapeFlow_tokens_of : List IS := [
 .ite (.cmp .Is (.var 158) (.lit .none)) [
  .ret (.list [])] [],
 .ite (.cmp .Eq (.sub (.var 158) (.lit (.int 0))) (.lit (.str 176))) [
  .ret (.call (.glob 124) [.meth (.attr (.var 199) 101) 93 [.sub (.var 158) (.lit (.int 1)), .dict [] []]])] [],
 .ret (.ite (.cmp .NotEq (.call (.glob 154) [.sub (.var 158) (.lit (.int 2))]) (.list [])) (.list [.glob 14]) (.list []))]
noncomputable def p_EscapeFlow_tokens_of_ps : List Nat := [199, 158]
noncomputable def p_EscapeFlow_tokens_of_all : List IS := [
 .setv 91 (.list []),
 .for (.v 158) (.var 159) [
  .expr (.meth (.var 91) 85 [.meth (.var 199) 223 [.var 158]])],
 .ret (.var 91)]
noncomputable def p_EscapeFlow_tokens_of_all_ps : List Nat := [199, 159]
noncomputable def p_EscapeFlow_reached : List IS := [
 .sett [91, 232] (.tup [.dict [] [], .call (.glob 124) [.var 222]]),
 .while (.cmp .NotEq (.var 232) (.list [])) [
  .setv 221 (.meth (.var 232) 166 []),
  .ite (.cmp .NotIn (.var 221) (.var 91)) [
   .seti (.var 91) (.var 221) (.lit (.bool true)),
   .expr (.meth (.var 232) 85 [.meth (.var 199) 126 [.list [.var 221]]])] []],
 .ret (.call (.glob 124) [.var 91])]
noncomputable def p_EscapeFlow_reached_ps : List Nat := [199, 222]
noncomputable def p_EscapeFlow_loaded : List IS := [
 .setv 91 (.dict [] []),
 .for (.v 221) (.var 222) [
  .ite (.cmp .NotEq (.sub (.var 221) (.lit (.int 0))) (.lit (.str 202))) [
   .seti (.var 91) (.var 221) (.lit (.bool true)),
   .for (.t [103, 162]) (.attr (.attr (.var 199) 214) 113) [
    .ite (.cmp .Eq (.var 221) (.tup [.lit (.str 162), .var 162])) [
     .seti (.var 91) (.ite (.cmp .Eq (.var 103) (.glob 20)) (.glob 14) (.tup [.lit (.str 162), .var 103])) (.lit (.bool true))] []],
   .cont] [],
  .for (.v 103) (.meth (.attr (.var 199) 104) 93 [.sub (.var 221) (.lit (.int 1)), .dict [] []]) [
   .seti (.var 91) (.var 103) (.lit (.bool true))],
  .ite (.cmp .In (.sub (.var 221) (.lit (.int 1))) (.attr (.var 199) 97)) [
   .seti (.var 91) (.glob 14) (.lit (.bool true))] []],
 .ret (.call (.glob 124) [.var 91])]
noncomputable def p_EscapeFlow_loaded_ps : List Nat := [199, 222]
noncomputable def p_EscapeFlow_note : List IS := [
 .ite (.cmp .NotIn (.var 114) (.var 215)) [
  .seti (.var 215) (.var 114) (.lit (.bool true)),
  .seta (.var 199) 108 (.lit (.bool true))] []]
noncomputable def p_EscapeFlow_note_ps : List Nat := [199, 215, 114]
noncomputable def p_EscapeFlow_give : List IS := [
 .ite (.cmp .IsNot (.var 177) (.lit .none)) [
  .setv 101 (.meth (.attr (.var 199) 101) 201 [.var 177, .dict [] []]),
  .for (.v 221) (.var 222) [
   .expr (.meth (.var 199) 152 [.var 101, .var 221])]] []]
noncomputable def p_EscapeFlow_give_ps : List Nat := [199, 177, 222]
noncomputable def p_EscapeFlow_make : List IS := [
 .expr (.meth (.var 199) 152 [.attr (.var 199) 203, .var 202]),
 .expr (.meth (.var 199) 94 [.var 177, .list [.tup [.lit (.str 202), .var 202]]])]
noncomputable def p_EscapeFlow_make_ps : List Nat := [199, 177, 202]
noncomputable def p_EscapeFlow_leak : List IS := [
 .for (.v 221) (.meth (.var 199) 172 [.var 222]) [
  .ite (.cmp .Eq (.sub (.var 221) (.lit (.int 0))) (.lit (.str 202))) [
   .expr (.meth (.var 199) 152 [.attr (.var 199) 97, .sub (.var 221) (.lit (.int 1))])] [
   .ite (.cmp .Eq (.sub (.var 221) (.lit (.int 0))) (.lit (.str 162))) [
    .expr (.meth (.var 199) 152 [.attr (.attr (.var 199) 214) 121, .sub (.var 221) (.lit (.int 1))])] []]]]
noncomputable def p_EscapeFlow_leak_ps : List Nat := [199, 222]
noncomputable def p_EscapeFlow_put : List IS := [
 .for (.v 217) (.var 218) [
  .ite (.cmp .Eq (.var 217) (.glob 14)) [
   .expr (.meth (.var 199) 120 [.var 222])] [
   .ite (.cmp .Eq (.sub (.var 217) (.lit (.int 0))) (.lit (.str 162))) [
    .expr (.meth (.var 199) 170 [.sub (.var 217) (.lit (.int 1)), .var 222])] [
    .setv 101 (.meth (.attr (.var 199) 104) 201 [.sub (.var 217) (.lit (.int 1)), .dict [] []]),
    .for (.v 221) (.var 222) [
     .expr (.meth (.var 199) 152 [.var 101, .var 221])],
    .ite (.cmp .In (.sub (.var 217) (.lit (.int 1))) (.attr (.var 199) 97)) [
     .expr (.meth (.var 199) 120 [.var 222])] []]]]]
noncomputable def p_EscapeFlow_put_ps : List Nat := [199, 218, 222]
noncomputable def p_EscapeFlow_put_out : List IS := [
 .for (.v 221) (.meth (.var 199) 172 [.var 222]) [
  .ite (.cmp .Eq (.sub (.var 221) (.lit (.int 0))) (.lit (.str 202))) [
   .expr (.meth (.var 199) 120 [.list [.var 221]])] [],
  .expr (.meth (.var 199) 152 [.attr (.attr (.var 199) 214) 113, .tup [.ite (.cmp .Eq (.sub (.var 221) (.lit (.int 0))) (.lit (.str 162))) (.sub (.var 221) (.lit (.int 1))) (.glob 20), .var 162]])]]
noncomputable def p_EscapeFlow_put_out_ps : List Nat := [199, 162, 222]
noncomputable def p_Code_init : List IS := [
 .seta (.var 199) 114 (.var 114),
 .seta (.var 199) 164 (.var 164),
 .seta (.var 199) 178 (.call (.glob 124) [.var 178]),
 .seta (.var 199) 56 (.var 56),
 .seta (.var 199) 62 (.var 62),
 .seta (.var 199) 179 (.var 179),
 .seta (.var 199) 174 (.var 174)]
noncomputable def p_Code_init_ps : List Nat := [199, 114, 164, 178, 56, 62, 179, 174]
noncomputable def p_Code_instructions : List IS := [
 .ret (.sub (.sub (.attr (.var 199) 56) (.var 55)) (.lit (.int 0)))]
noncomputable def p_Code_instructions_ps : List Nat := [199, 55]
noncomputable def p_Code_terminator : List IS := [
 .ret (.sub (.sub (.attr (.var 199) 56) (.var 55)) (.lit (.int 1)))]
noncomputable def p_Code_terminator_ps : List Nat := [199, 55]
noncomputable def p_Code_row : List IS := [
 .setv 56 (.call (.glob 228) [.comp [] (.tup [.call (.glob 228) [.var 206], .var 83]) [.t [206, 83]] [.attr (.var 199) 56] [[]]]),
 .ret (.tup [.attr (.var 199) 114, .attr (.var 199) 164, .call (.glob 228) [.attr (.var 199) 178], .var 56, .attr (.var 199) 62, .attr (.var 199) 179, .attr (.var 199) 174])]
noncomputable def p_Code_row_ps : List Nat := [199]
noncomputable def p_law_pool : List IS := [
 .setv 64 (.ite (.cmp .Gt (.call (.glob 123) [.var 197]) (.lit (.int 0))) (.sub (.var 197) (.lit (.int 0))) (.lit (.int 0))),
 .setv 98 (.call (.glob 145) [.var 64, .bin .Sub (.neg (.lit (.int 1))) (.var 64)]),
 .ret (.list [.ite (.cmp .GtE (.var 98) (.bin .Pow (.lit (.int 10)) (.lit (.int 18)))) (.var 98) (.lit (.int 0)), .bin .Mod (.bin .Mult (.bin .Add (.bin .Mod (.var 98) (.lit (.int 2147483629))) (.lit (.int 219))) (.lit (.int 48271))) (.lit (.int 2147483647))])]
noncomputable def p_law_pool_ps : List Nat := [197]
noncomputable def p_law_take : List IS := [
 .ite (.cmp .Gt (.sub (.var 208) (.lit (.int 0))) (.lit (.int 0))) [
  .setv 165 (.bin .Mod (.sub (.var 208) (.lit (.int 0))) (.var 227)),
  .seti (.var 208) (.lit (.int 0)) (.bin .FloorDiv (.sub (.var 208) (.lit (.int 0))) (.var 227)),
  .ret (.var 165)] [],
 .seti (.var 208) (.lit (.int 1)) (.bin .Mod (.bin .Add (.bin .Mult (.sub (.var 208) (.lit (.int 1))) (.lit (.int 39373))) (.lit (.int 7))) (.lit (.int 2147483647))),
 .ret (.bin .Mod (.bin .FloorDiv (.bin .Mod (.bin .Mult (.sub (.var 208) (.lit (.int 1))) (.sub (.var 208) (.lit (.int 1)))) (.lit (.int 2147483629))) (.lit (.int 32))) (.var 227))]
noncomputable def p_law_take_ps : List Nat := [208, 227]
noncomputable def p_law_one : List IS := [
 .ret (.sub (.var 220) (.call (.glob 46) [.var 208, .call (.glob 123) [.var 220]]))]
noncomputable def p_law_one_ps : List Nat := [208, 220]
noncomputable def p_law_flow : List IS := [
 .ret (.call (.glob 16) [.call (.glob 15) [.lit (.str 133), .lit (.int 2), .bin .Mult (.list [.tup [.lit (.str 168), .tup [.lit (.str 107), .lit (.str 107)]]]) (.lit (.int 6)), .list [.list [.list [], .tup [.lit (.str 180), .tup []]]]], .dict [] []])]
noncomputable def p_law_flow_ps : List Nat := []
noncomputable def p_law_next : List IS := [
 .ite (.cmp .Eq (.sub (.var 221) (.lit (.int 0))) (.lit (.str 202))) [
  .ret (.bin .Add (.sub (.sub (.var 57) (.lit (.str 104))) (.sub (.var 221) (.lit (.int 1)))) (.ite (.cmp .In (.sub (.var 221) (.lit (.int 1))) (.sub (.var 57) (.lit (.str 97)))) (.list [.tup [.lit (.str 54)]]) (.list [])))] [],
 .setc 206 (.comp [221] (.var 103) [.t [103, 162]] [.sub (.var 57) (.lit (.str 113))] [[.cmp .Eq (.var 221) (.tup [.lit (.str 162), .var 162])]]),
 .ret (.comp [] (.ite (.cmp .Eq (.var 103) (.neg (.lit (.int 1)))) (.tup [.lit (.str 54)]) (.tup [.lit (.str 162), .var 103])) [.v 103] [.var 206] [[]])]
noncomputable def p_law_next_ps : List Nat := [57, 221]
noncomputable def p_law_all : List IS := [
 .sett [91, 204] (.tup [.list [], .neg (.lit (.int 1))]),
 .expr (.call (.glob 23) [.var 91, .var 222]),
 .while (.cmp .Lt (.var 204) (.call (.glob 123) [.var 91])) [
  .setv 204 (.call (.glob 123) [.var 91]),
  .expr (.call (.glob 23) [.var 91, .comp [57] (.var 156) [.v 221, .v 156] [.var 91, .call (.glob 32) [.var 57, .var 221]] [[], []]])],
 .ret (.var 91)]
noncomputable def p_law_all_ps : List Nat := [57, 222]
noncomputable def p_law_add : List IS := [
 .for (.v 156) (.var 146) [
  .ite (.cmp .NotIn (.var 156) (.var 220)) [
   .expr (.meth (.var 220) 49 [.var 156])] []]]
noncomputable def p_law_add_ps : List Nat := [220, 146]
noncomputable def p_law_read : List IS := [
 .setv 91 (.list []),
 .for (.v 221) (.var 222) [
  .expr (.call (.glob 23) [.var 91, .ite (.cmp .Eq (.sub (.var 221) (.lit (.int 0))) (.lit (.str 202))) (.call (.glob 32) [.var 57, .var 221]) (.bin .Add (.list [.var 221]) (.call (.glob 32) [.var 57, .var 221]))])],
 .ret (.var 91)]
noncomputable def p_law_read_ps : List Nat := [57, 222]
noncomputable def p_law_out : List IS := [
 .for (.v 221) (.call (.glob 24) [.var 57, .var 222]) [
  .setv 215 (.sub (.dict [.lit (.str 202), .lit (.str 162), .lit (.str 54)] [.lit (.str 97), .lit (.str 121), .lit .none]) (.sub (.var 221) (.lit (.int 0)))),
  .ite (.cmp .IsNot (.var 215) (.lit .none)) [
   .expr (.call (.glob 23) [.sub (.var 57) (.var 215), .list [.sub (.var 221) (.lit (.int 1))]])] []]]
noncomputable def p_law_out_ps : List Nat := [57, 222]
noncomputable def p_law_into : List IS := [
 .for (.v 217) (.var 218) [
  .ite (.cmp .Eq (.sub (.var 217) (.lit (.int 0))) (.lit (.str 54))) [
   .expr (.call (.glob 35) [.var 57, .var 222])] [
   .ite (.cmp .Eq (.sub (.var 217) (.lit (.int 0))) (.lit (.str 202))) [
    .expr (.call (.glob 23) [.sub (.sub (.var 57) (.lit (.str 104))) (.sub (.var 217) (.lit (.int 1))), .var 222]),
    .ite (.cmp .In (.sub (.var 217) (.lit (.int 1))) (.sub (.var 57) (.lit (.str 97)))) [
     .expr (.call (.glob 35) [.var 57, .var 222])] []] [
    .for (.v 221) (.call (.glob 24) [.var 57, .var 222]) [
     .ite (.cmp .Eq (.sub (.var 221) (.lit (.int 0))) (.lit (.str 202))) [
      .expr (.call (.glob 35) [.var 57, .list [.var 221]])] [],
     .expr (.call (.glob 23) [.sub (.var 57) (.lit (.str 113)), .list [.tup [.ite (.cmp .Eq (.sub (.var 221) (.lit (.int 0))) (.lit (.str 162))) (.sub (.var 221) (.lit (.int 1))) (.neg (.lit (.int 1))), .sub (.var 217) (.lit (.int 1))]]])]]]]]
noncomputable def p_law_into_ps : List Nat := [57, 218, 222]
noncomputable def p_law_do : List IS := [
 .sett [233, 156, 160, 202] (.var 77),
 .setv 222 (.meth (.var 88) 223 [.tup [.lit (.str 176), .var 160]]),
 .ite (.cmp .Eq (.var 233) (.lit (.str 137))) [
  .expr (.meth (.var 88) 137 [.var 156, .var 202])] [
  .ite (.cmp .Eq (.var 233) (.lit (.str 148))) [
   .expr (.meth (.var 88) 94 [.var 156, .var 222])] [
   .ite (.cmp .Eq (.var 233) (.lit (.str 125))) [
    .expr (.meth (.var 88) 94 [.var 156, .meth (.var 88) 126 [.var 222]])] [
    .ite (.cmp .Eq (.var 233) (.lit (.str 161))) [
     .expr (.meth (.var 88) 120 [.var 222])] [
     .expr (.meth (.var 88) 169 [.ite (.cmp .Eq (.var 233) (.lit (.str 54))) (.list [.tup [.lit (.str 54)]]) (.meth (.var 88) 223 [.tup [.lit (.str 176), .var 156]]), .var 222])]]]]]
noncomputable def p_law_do_ps : List Nat := [88, 77]
noncomputable def p_law_done : List IS := [
 .sett [233, 156, 160, 202] (.var 77),
 .setv 222 (.call (.glob 124) [.sub (.sub (.var 57) (.lit (.str 101))) (.var 160)]),
 .ite (.cmp .Eq (.var 233) (.lit (.str 137))) [
  .expr (.call (.glob 23) [.sub (.var 57) (.lit (.str 203)), .list [.var 202]]),
  .expr (.call (.glob 23) [.sub (.sub (.var 57) (.lit (.str 101))) (.var 156), .list [.tup [.lit (.str 202), .var 202]]])] [
  .ite (.cmp .In (.var 233) (.list [.lit (.str 148), .lit (.str 125)])) [
   .expr (.call (.glob 23) [.sub (.sub (.var 57) (.lit (.str 101))) (.var 156), .ite (.cmp .Eq (.var 233) (.lit (.str 148))) (.var 222) (.call (.glob 39) [.var 57, .var 222])])] [
   .ite (.cmp .Eq (.var 233) (.lit (.str 161))) [
    .expr (.call (.glob 35) [.var 57, .var 222])] [
    .expr (.call (.glob 30) [.var 57, .ite (.cmp .Eq (.var 233) (.lit (.str 54))) (.list [.tup [.lit (.str 54)]]) (.call (.glob 124) [.sub (.sub (.var 57) (.lit (.str 101))) (.var 156)]), .var 222])]]]]
noncomputable def p_law_done_ps : List Nat := [57, 77]
noncomputable def p_law_size : List IS := [
 .ret (.bin .Add (.call (.glob 212) [.comp [] (.call (.glob 123) [.sub (.var 215) (.var 114)]) [.v 215, .v 114] [.list [.var 101, .var 104], .var 215] [[], []]]) (.call (.glob 212) [.comp [] (.call (.glob 123) [.var 181]) [.v 181] [.var 182] [[]]]))]
noncomputable def p_law_size_ps : List Nat := [101, 104, 182]
noncomputable def p_law_deeds : List IS := [
 .setv 91 (.list []),
 .for (.v 229) (.call (.glob 171) [.bin .Add (.lit (.int 3)) (.call (.glob 46) [.var 208, .lit (.int 6)])]) [
  .setv 233 (.call (.glob 33) [.var 208, .list [.lit (.str 137), .lit (.str 137), .lit (.str 148), .lit (.str 125), .lit (.str 161), .lit (.str 169), .lit (.str 169), .lit (.str 169), .lit (.str 54)]]),
  .sett [156, 160] (.tup [.call (.glob 46) [.var 208, .lit (.int 6)], .call (.glob 46) [.var 208, .lit (.int 6)]]),
  .expr (.meth (.var 91) 49 [.tup [.var 233, .var 156, .var 160, .call (.glob 33) [.var 208, .list [.lit (.str 48), .lit (.str 53), .lit (.str 59), .lit (.str 76)]]]])],
 .ret (.var 91)]
noncomputable def p_law_deeds_ps : List Nat := [208]
noncomputable def p_law_stands : List IS := [
 .for (.v 177) (.call (.glob 171) [.lit (.int 6)]) [
  .setv 222 (.sub (.sub (.var 57) (.lit (.str 101))) (.var 177)),
  .ite (.cmp .NotEq (.call (.glob 207) [.meth (.var 88) 223 [.tup [.lit (.str 176), .var 177]]]) (.call (.glob 207) [.var 222])) [
   .ret (.lit (.bool false))] [],
  .ite (.cmp .NotEq (.call (.glob 207) [.meth (.var 88) 172 [.var 222]]) (.call (.glob 207) [.call (.glob 24) [.var 57, .var 222]])) [
   .ret (.lit (.bool false))] [],
  .ite (.cmp .NotEq (.call (.glob 207) [.meth (.var 88) 126 [.var 222]]) (.call (.glob 207) [.call (.glob 39) [.var 57, .var 222]])) [
   .ret (.lit (.bool false))] []],
 .for (.v 202) (.list [.lit (.str 48), .lit (.str 53), .lit (.str 59), .lit (.str 76)]) [
  .ite (.cmp .NotEq (.call (.glob 207) [.meth (.attr (.var 88) 104) 93 [.var 202, .dict [] []]]) (.call (.glob 207) [.sub (.sub (.var 57) (.lit (.str 104))) (.var 202)])) [
   .ret (.lit (.bool false))] [],
  .setc 206 (.comp [88] (.var 221) [.v 221] [.sub (.sub (.var 57) (.lit (.str 104))) (.var 202)] [[.and [.cmp .Eq (.sub (.var 221) (.lit (.int 0))) (.lit (.str 202)), .cmp .NotIn (.sub (.var 221) (.lit (.int 1))) (.attr (.var 88) 97)]]]),
  .ite (.and [.cmp .In (.var 202) (.attr (.var 88) 97), .cmp .NotEq (.var 206) (.list [])]) [
   .ret (.lit (.bool false))] []],
 .ite (.or [.cmp .NotEq (.call (.glob 207) [.attr (.var 88) 203]) (.call (.glob 207) [.sub (.var 57) (.lit (.str 203))]), .cmp .NotEq (.call (.glob 207) [.attr (.var 88) 97]) (.call (.glob 207) [.sub (.var 57) (.lit (.str 97))])]) [
  .ret (.lit (.bool false))] [],
 .ret (.and [.cmp .Eq (.call (.glob 207) [.attr (.attr (.var 88) 214) 121]) (.call (.glob 207) [.sub (.var 57) (.lit (.str 121))]), .cmp .Eq (.call (.glob 207) [.attr (.attr (.var 88) 214) 113]) (.call (.glob 207) [.sub (.var 57) (.lit (.str 113))])])]
noncomputable def p_law_stands_ps : List Nat := [88, 57]
noncomputable def p_law_operands_right : List IS := [
 .sett [19, 153] (.tup [.tup [.lit (.str 107), .lit (.str 107)], .call (.glob 46) [.var 208, .lit (.int 9)]]),
 .setv 161 (.list [.tup [.lit (.str 54)]]),
 .setv 206 (.list [.tup [.lit .none, .list []], .tup [.lit (.int 7), .list []], .tup [.lit (.bytes #[120]), .list []], .tup [.tup [.lit (.str 168), .lit (.int 5), .tup []], .var 161], .tup [.tup [.lit (.str 211), .tup [.lit (.int 1), .tup [.lit (.str 142), .lit (.int 6)]]], .var 161]]),
 .sett [230, 80] (.call (.glob 33) [.var 208, .bin .Add (.var 206) (.list [.tup [.tup [.lit (.str 50), .tup [.lit (.int 1), .lit (.int 2)]], .list []], .tup [.tup [.lit (.str 86), .var 19, .tup [.lit (.str 205), .lit (.int 3), .lit (.int 0), .lit (.int 1), .lit (.int 1)]], .var 161]])]),
 .ite (.or [.cmp .NotEq (.meth (.var 88) 223 [.tup [.lit (.str 72), .var 19, .var 230]]) (.var 80), .cmp .NotEq (.meth (.var 88) 223 [.lit .none]) (.list []), .cmp .NotEq (.meth (.var 88) 223 [.tup [.lit (.str 176), .lit (.int 70)]]) (.list [])]) [
  .ret (.lit (.bool false))] [],
 .ite (.cmp .NotEq (.meth (.var 88) 224 [.tup [.tup [.lit (.str 72), .var 19, .var 230], .tup [.lit (.str 72), .var 19, .tup [.lit (.str 168), .lit (.int 9), .tup []]]]]) (.bin .Add (.var 80) (.list [.tup [.lit (.str 54)]]))) [
  .ret (.lit (.bool false))] [],
 .setv 214 (.call (.glob 18) []),
 .expr (.meth (.var 88) 152 [.meth (.var 214) 226 [.var 153], .neg (.lit (.int 1))]),
 .expr (.meth (.var 88) 152 [.meth (.var 214) 226 [.var 153], .lit (.int 1)]),
 .ret (.and [.cmp .Eq (.call (.glob 207) [.meth (.var 214) 226 [.var 153]]) (.list [.neg (.lit (.int 1)), .lit (.int 1)]), .cmp .Eq (.meth (.var 214) 226 [.bin .Add (.var 153) (.lit (.int 1))]) (.dict [] [])])]
noncomputable def p_law_operands_right_ps : List Nat := [208, 88]
noncomputable def p_law : List IS := [
 .setv 88 (.call (.glob 29) []),
 .expr (.meth (.var 88) 137 [.lit (.int 2), .lit (.str 48)]),
 .expr (.meth (.var 88) 120 [.list [.tup [.lit (.str 202), .lit (.str 48)]]]),
 .expr (.meth (.var 88) 169 [.list [.tup [.lit (.str 202), .lit (.str 48)]], .list [.tup [.lit (.str 162), .lit (.int 1)]]]),
 .ite (.or [.cmp .NotEq (.attr (.var 88) 97) (.dict [.lit (.str 48)] [.lit (.bool true)]), .cmp .NotEq (.attr (.attr (.var 88) 214) 121) (.dict [.lit (.int 1)] [.lit (.bool true)])]) [
  .ret (.lit (.bool false))] [],
 .sett [208, 88] (.tup [.call (.glob 36) [.var 197], .call (.glob 29) []]),
 .sett [57, 78] (.tup [.dict [.lit (.str 101), .lit (.str 104)] [.dict [.lit (.int 0), .lit (.int 1)] [.list [.tup [.lit (.str 162), .lit (.int 0)]], .list [.tup [.lit (.str 162), .lit (.int 1)]]], .dict [] []], .call (.glob 26) [.var 208]]),
 .for (.v 233) (.list [.lit (.str 203), .lit (.str 97), .lit (.str 121), .lit (.str 113)]) [
  .seti (.var 57) (.var 233) (.list [])],
 .for (.v 177) (.call (.glob 171) [.lit (.int 2), .lit (.int 6)]) [
  .seti (.sub (.var 57) (.lit (.str 101))) (.var 177) (.list [])],
 .for (.v 202) (.list [.lit (.str 48), .lit (.str 53), .lit (.str 59), .lit (.str 76)]) [
  .seti (.sub (.var 57) (.lit (.str 104))) (.var 202) (.list [])],
 .sett [204, 116] (.tup [.neg (.lit (.int 1)), .attr (.var 88) 214]),
 .while (.cmp .Lt (.var 204) (.call (.glob 44) [.attr (.var 88) 101, .attr (.var 88) 104, .list [.attr (.var 88) 97, .attr (.var 116) 121, .attr (.var 116) 113]])) [
  .setv 204 (.call (.glob 44) [.attr (.var 88) 101, .attr (.var 88) 104, .list [.attr (.var 88) 97, .attr (.var 116) 121, .attr (.var 116) 113]]),
  .for (.v 77) (.var 78) [
   .expr (.call (.glob 27) [.var 88, .var 77])]],
 .setv 204 (.neg (.lit (.int 1))),
 .while (.cmp .Lt (.var 204) (.call (.glob 44) [.sub (.var 57) (.lit (.str 101)), .sub (.var 57) (.lit (.str 104)), .list [.sub (.var 57) (.lit (.str 97)), .sub (.var 57) (.lit (.str 121)), .sub (.var 57) (.lit (.str 113))]])) [
  .setv 204 (.call (.glob 44) [.sub (.var 57) (.lit (.str 101)), .sub (.var 57) (.lit (.str 104)), .list [.sub (.var 57) (.lit (.str 97)), .sub (.var 57) (.lit (.str 121)), .sub (.var 57) (.lit (.str 113))]]),
  .for (.v 77) (.var 78) [
   .expr (.call (.glob 28) [.var 57, .var 77])]],
 .ret (.and [.call (.glob 45) [.var 88, .var 57], .call (.glob 34) [.var 208, .var 88]])]
noncomputable def p_law_ps : List Nat := [197]
end Mine
namespace Mine
open PySem PySem.W PyProof.Rows PySem.Calls PySem.Spec PySem.SeqAt
noncomputable def mgOf (K : Frag) (x : Str) : Option (Option Value) := match K.lookup mainGlobals with
 | some o => match o.data with
  | .dict es _ => some (nsFind es x)
  | _ => none
 | none => none
theorem mg_of {C : Cx} {x : Str} {r : Option Value} (h : mgOf C.K x = some r) : C.mg x = r := by
 obtain ⟨o, es, ep, h1, h2, _, h3⟩ := C.top.g
 unfold mgOf at h
 cases hl : C.K.lookup mainGlobals with
 | none => rw [hl] at h; cases h
 | some o' =>
  have := C.inK _ _ hl
  rw [h1] at this; cases this
  rw [hl] at h
  simp only [h2, Option.some.injEq] at h
  rw [← h3, h]
theorem gok_mg {C : Cx} {i : Nat} {rv : Value} {v : MV} (hi : i < tabN) (h : mgOf C.K (tx i) = some (some rv)) (hv : ∀ ι h, (∀ b o, C.h₀.get? b = some o → h.get? b = some o) → VR ι h v rv) : GOk C i v :=
 ⟨tx i, rv, by rw [← tab_len] at hi; simp [tx, List.getD, hi], .inl (mg_of h), hv⟩
theorem gok_raw {C : Cx} {i : Nat} {rv : Value} (hi : i < tabN) (h : mgOf C.K (tx i) = some (some rv)) : GOk C i (.raw rv) := gok_mg hi h fun _ _ _ => by first | exact rfl | exact ⟨_, rfl⟩
theorem gok_int {C : Cx} {i : Nat} {k : Int} {t : Tok} (hi : i < tabN) (h : mgOf C.K (tx i) = some (some (.int k t))) : GOk C i (.int k) := gok_mg hi h fun _ _ _ => by first | exact rfl | exact ⟨_, rfl⟩
theorem gok_boot {C : Cx} {i : Nat} {rv : Value} (hi : i < tabN) (h : mgOf C.K (tx i) = some none) (hb : bootBuiltins (tx i) = some rv) (hn : tx i ≠ "__name__") : GOk C i (.raw rv) :=
 ⟨tx i, rv, by rw [← tab_len] at hi; simp [tx, List.getD, hi], .inr ⟨mg_of h, by rw [C.top.builtins _ hn]; exact hb⟩, fun _ _ _ => by first | exact rfl | exact ⟨_, rfl⟩⟩
noncomputable def strAt (i : Nat) (v : Value) : Bool := if h : v.ctorIdx = 6 then PySem.Value.str.elim (motive := fun _ => Bool) v h (fun x _ => decide (tab[i]? = some x)) else false
theorem strAt_R {ι : List Addr} {h : Heap} {i : Nat} {v : Value} (hb : strAt i v = true) : VR ι h (.str i) v :=
 if q : v.ctorIdx = 6 then PySem.Value.str.elim (motive := fun v => strAt i v = true → VR ι h (.str i) v) v q (fun x tk hb => ⟨x, tk, of_decide_eq_true hb, rfl⟩) hb else ff ((dif_neg q).symm.trans hb)
noncomputable def strsB : List Nat → List Value → Bool
 | [], vs => vs.isEmpty
 | i :: is, vs => onCons vs fun v vs => strAt i v && strsB is vs
theorem strsB_R {ι : List Addr} {h : Heap} : ∀ {is : List Nat} {vs : List Value}, strsB is vs = true → VRs ι h (is.map MV.str) vs
 | [], _, h => nil_inv h
 | i :: is, _, h => by
  replace h := onCons_inv h; obtain ⟨v, vs, rfl, h⟩ := h
  exact .cons (strAt_R (and2 h).1) (strsB_R (and2 h).2)
noncomputable def isTupV (v : Value) : Bool := if h : v.ctorIdx = 8 then PySem.Value.type.elim (motive := fun _ => Bool) v h (fun x => decide (x = "tuple")) else false
theorem isTupV_R {v : Value} (hb : isTupV v = true) : v = .type "tuple" :=
 if q : v.ctorIdx = 8 then PySem.Value.type.elim (motive := fun v => isTupV v = true → v = .type "tuple") v q (fun x hb => congrArg _ (of_decide_eq_true hb)) hb else ff ((dif_neg q).symm.trans hb)
noncomputable def seqB (d : Data) (f : List Value → Bool) : Bool := if h : d.ctorIdx = 2 then PySem.Data.seq.elim (motive := fun _ => Bool) d h (fun x _ => f x.toList) else false
theorem seqB_R {d : Data} {f : List Value → Bool} (hb : seqB d f = true) : Y2 (fun x n => d = .seq x n) fun x _ => f x.toList = true :=
 if q : d.ctorIdx = 2 then PySem.Data.seq.elim (motive := fun d => seqB d f = true → Y2 (fun x n => d = .seq x n) fun x _ => f x.toList = true) d q (fun x n hb => ⟨x, n, rfl, hb⟩) hb else ff ((dif_neg q).symm.trans hb)
noncomputable def tupB (K : Frag) (a : Addr) (is : List Nat) : Bool := onSome (K.lookup a) fun o => isTupV o.cls && o.dict.isNone && o.slots.isEmpty && seqB o.data (strsB is)
theorem tupB_R {C : Cx} {a : Addr} {is : List Nat} (hb : tupB C.K a is = true) {ι : List Addr} {h : Heap} (hk : ∀ b o, C.h₀.get? b = some o → h.get? b = some o) : VR ι h (.tup (is.map MV.str)) (.ref a) := by
 replace hb := onSome_inv hb; obtain ⟨o, hl, hb⟩ := hb
 obtain ⟨h1, h2, h3, h4⟩ := and4 hb
 replace h4 := seqB_R h4; obtain ⟨items, n, h5, h6⟩ := h4
 refine ⟨a, items, n, rfl, hk _ _ ((C.inK _ _ hl).trans ?_), strsB_R h6⟩
 obtain ⟨c, d, dt, sl⟩ := o
 cases isTupV_R h1
 cases (h5 : dt = _)
 cases Option.isNone_iff_eq_none.mp h2
 cases Array.isEmpty_iff.mp h3
 rfl
noncomputable def stepL {α : Type} (t : Sem α) (o : Obj) : Option (Addr × Sem α) := if h : t.ctorIdx = 6 then PySem.Sem.load.elim (motive := fun _ => Option (Addr × Sem α)) t h (fun a _ k => some (a, k o)) else none
theorem stepL_R {α : Type} {M : Model} {A : Around} {E : Value → Shared → Prop} {s : Shared} {Q : α → Shared → Prop} {t t' : Sem α} {o : Obj} {a : Addr} (h : stepL t o = some (a, t')) (ho : s.heap.get? a = some o) (hq : wpAny M A t' Q E s) : wpAny M A t Q E s :=
 if q : t.ctorIdx = 6 then PySem.Sem.load.elim (motive := fun t => stepL t o = some (a, t') → wpAny M A t Q E s) t q (fun b p k h => by
  cases h
  exact fun Γ p hΓ => ⟨o, ho, hq Γ p hΓ⟩) h else nomatch (show none = some (a, t') from (dif_neg q).symm.trans h)
noncomputable def bindL2 (K : Frag) (f d : Addr) (rvs : List Value) : Option (Addr × Sem (List (Str × Value))) := match K.lookup f, K.lookup d with
 | some o, some od => match o.data with
  | .func fd => stepL (bindArgs fd ⟨rvs, []⟩) od
  | _ => none
 | _, _ => none
noncomputable def dvOf (K : Frag) (a : Addr) : List Value := match K.lookup a with
 | some o => match o.data with
  | .seq items _ => items.toList
  | _ => []
 | none => []
noncomputable def isZ (v : Value) : Bool := if h : v.ctorIdx = 4 then PySem.Value.int.elim (motive := fun _ => Bool) v h (fun k _ => decide (k = 0)) else false
theorem isZ_R {ι : List Addr} {h : Heap} {v : Value} (hb : isZ v = true) : VR ι h (.int 0) v :=
 if q : v.ctorIdx = 4 then PySem.Value.int.elim (motive := fun v => isZ v = true → VR ι h (.int 0) v) v q (fun x tk hb => ⟨tk, by rw [of_decide_eq_true hb]⟩) hb else ff ((dif_neg q).symm.trans hb)
noncomputable def zeroB (vs : List Value) : Bool := onCons vs fun a r => isZ a && onCons r fun b r => isZ b && on1 r fun c => Nat.beq c.ctorIdx 0
theorem zeroB_R {ι : List Addr} {h : Heap} {vs : List Value} (hz : zeroB vs = true) : VRs ι h [.int 0, .int 0, .none] vs := by
 replace hz := onCons_inv hz; obtain ⟨a, r, rfl, hz⟩ := hz
 replace hz := and2 hz; obtain ⟨h1, hz⟩ := hz
 replace hz := onCons_inv hz; obtain ⟨b, r, rfl, hz⟩ := hz
 replace hz := and2 hz; obtain ⟨h2, hz⟩ := hz
 replace hz := on1_inv hz; obtain ⟨c, rfl, hz⟩ := hz
 refine .cons (isZ_R h1) (.cons (isZ_R h2) (.cons ?_ .nil))
 cases c <;> first | rfl | exact ff hz
theorem fnOk25 {K : Frag} {f d : Addr} {ps : List Nat} {body : List IS} (h : fnB K f ps body = true) (hn : ps.Nodup) (hd : ∃ od, K.lookup d = some od)
  (hb : ∀ a b c d' e, bindL2 K f d [a, b, c, d', e] = some (d, pure ((ps.map tx).zip ([a, b, c, d', e] ++ dvOf K d)))) : FnOk K f ps 5 (dvOf K d) body :=
 fnOkD h hn fun o fd h1 h2 s rvs X hl => by
  obtain ⟨od, hod⟩ := hd
  have := all5 (P := fun rvs => bindL2 K f d rvs = some (d, pure ((ps.map tx).zip (rvs ++ dvOf K d)))) hb rvs hl
  unfold bindL2 at this
  rw [h1, hod] at this
  simp only [h2] at this
  intro M A E Q hq
  exact stepL_R this (X _ _ hod) (wpAny_pure hq)
inductive AllP : List Prop → Prop where
 | nil : AllP []
 | cons {p : Prop} {ps : List Prop} (h : p) (t : AllP ps) : AllP (p :: ps)
theorem AllP.at {ps : List Prop} {p : Prop} (L : AllP ps) : ∀ (i : Nat), ps[i]? = some p → p := by
 induction L with
 | nil => exact fun i h => nomatch h
 | cons h t ih =>
  intro i e
  cases i with
  | zero => cases e; exact h
  | succ i => exact ih i e
noncomputable def facts (K : Frag) : List Prop := [
 FnOk K 29 p_objects_within_ps 1 [] p_objects_within,
 mgOf K (tx 154) = some (some (.ref 29)),
 keepIn K (.ref 29) = true,
 FnOk K 44 p_Summary_init_ps 1 [] p_Summary_init,
 findIn K (.ref 54) "__init__" = some (some (.ref 44)),
 typeIn K (.ref 44) = some (.type "function"),
 FnOk K 51 p_Summary_told_by_ps 2 [] p_Summary_told_by,
 methB K 54 226 51 = true,
 FnOk K 72 p_EscapeFlow_init_ps 3 [] p_EscapeFlow_init,
 findIn K (.ref 208) "__init__" = some (some (.ref 72)),
 typeIn K (.ref 72) = some (.type "function"),
 FnOk K 79 p_EscapeFlow_tokens_of_ps 2 [] p_EscapeFlow_tokens_of,
 methB K 208 223 79 = true,
 FnOk K 86 p_EscapeFlow_tokens_of_all_ps 2 [] p_EscapeFlow_tokens_of_all,
 methB K 208 224 86 = true,
 FnOk K 93 p_EscapeFlow_reached_ps 2 [] p_EscapeFlow_reached,
 methB K 208 172 93 = true,
 FnOk K 100 p_EscapeFlow_loaded_ps 2 [] p_EscapeFlow_loaded,
 methB K 208 126 100 = true,
 FnOk K 107 p_EscapeFlow_note_ps 3 [] p_EscapeFlow_note,
 methB K 208 152 107 = true,
 FnOk K 114 p_EscapeFlow_give_ps 3 [] p_EscapeFlow_give,
 methB K 208 94 114 = true,
 FnOk K 121 p_EscapeFlow_make_ps 3 [] p_EscapeFlow_make,
 methB K 208 137 121 = true,
 FnOk K 128 p_EscapeFlow_leak_ps 2 [] p_EscapeFlow_leak,
 methB K 208 120 128 = true,
 FnOk K 135 p_EscapeFlow_put_ps 3 [] p_EscapeFlow_put,
 methB K 208 169 135 = true,
 FnOk K 142 p_EscapeFlow_put_out_ps 3 [] p_EscapeFlow_put_out,
 methB K 208 170 142 = true,
 FnOk K 260 p_law_pool_ps 1 [] p_law_pool,
 mgOf K (tx 36) = some (some (.ref 260)),
 keepIn K (.ref 260) = true,
 FnOk K 267 p_law_take_ps 2 [] p_law_take,
 mgOf K (tx 46) = some (some (.ref 267)),
 keepIn K (.ref 267) = true,
 FnOk K 274 p_law_one_ps 2 [] p_law_one,
 mgOf K (tx 33) = some (some (.ref 274)),
 keepIn K (.ref 274) = true,
 FnOk K 281 p_law_flow_ps 0 [] p_law_flow,
 mgOf K (tx 29) = some (some (.ref 281)),
 keepIn K (.ref 281) = true,
 FnOk K 286 p_law_next_ps 2 [] p_law_next,
 mgOf K (tx 32) = some (some (.ref 286)),
 keepIn K (.ref 286) = true,
 FnOk K 291 p_law_all_ps 2 [] p_law_all,
 mgOf K (tx 24) = some (some (.ref 291)),
 keepIn K (.ref 291) = true,
 FnOk K 298 p_law_add_ps 2 [] p_law_add,
 mgOf K (tx 23) = some (some (.ref 298)),
 keepIn K (.ref 298) = true,
 FnOk K 305 p_law_read_ps 2 [] p_law_read,
 mgOf K (tx 39) = some (some (.ref 305)),
 keepIn K (.ref 305) = true,
 FnOk K 312 p_law_out_ps 2 [] p_law_out,
 mgOf K (tx 35) = some (some (.ref 312)),
 keepIn K (.ref 312) = true,
 FnOk K 319 p_law_into_ps 3 [] p_law_into,
 mgOf K (tx 30) = some (some (.ref 319)),
 keepIn K (.ref 319) = true,
 FnOk K 326 p_law_do_ps 2 [] p_law_do,
 mgOf K (tx 27) = some (some (.ref 326)),
 keepIn K (.ref 326) = true,
 FnOk K 333 p_law_done_ps 2 [] p_law_done,
 mgOf K (tx 28) = some (some (.ref 333)),
 keepIn K (.ref 333) = true,
 FnOk K 338 p_law_size_ps 3 [] p_law_size,
 mgOf K (tx 44) = some (some (.ref 338)),
 keepIn K (.ref 338) = true,
 FnOk K 345 p_law_deeds_ps 1 [] p_law_deeds,
 mgOf K (tx 26) = some (some (.ref 345)),
 keepIn K (.ref 345) = true,
 FnOk K 350 p_law_stands_ps 2 [] p_law_stands,
 mgOf K (tx 45) = some (some (.ref 350)),
 keepIn K (.ref 350) = true,
 FnOk K 357 p_law_operands_right_ps 2 [] p_law_operands_right,
 mgOf K (tx 34) = some (some (.ref 357)),
 keepIn K (.ref 357) = true,
 clsB K 54 = true,
 mgOf K (tx 18) = some (some (.ref 54)),
 clsB K 208 = true,
 mgOf K (tx 16) = some (some (.ref 208)),
 clsB K 249 = true,
 mgOf K (tx 15) = some (some (.ref 249)),
 attrB K 54 121 = true,
 attrB K 54 113 = true,
 attrB K 54 225 = true,
 attrB K 208 71 = true,
 attrB K 208 213 = true,
 attrB K 208 101 = true,
 attrB K 208 104 = true,
 attrB K 208 203 = true,
 attrB K 208 97 = true,
 attrB K 208 214 = true,
 attrB K 208 108 = true,
 attrB K 249 114 = true,
 attrB K 249 164 = true,
 attrB K 249 178 = true,
 attrB K 249 56 = true,
 attrB K 249 62 = true,
 attrB K 249 179 = true,
 attrB K 249 174 = true,
 mgOf K (tx 109) = some none,
 mgOf K (tx 123) = some none,
 mgOf K (tx 145) = some none,
 mgOf K (tx 212) = some none,
 mgOf K (tx 207) = some none,
 mgOf K (tx 228) = some none,
 mgOf K (tx 124) = some none,
 mgOf K (tx 171) = some none,
 mgOf K (tx 14) = some (some (.ref 30)),
 tupB K 30 [54] = true,
 mgOf K (tx 17) = some (some (.ref 22)),
 tupB K 22 [168, 205, 142, 65, 110] = true,
 mgOf K (tx 20) = some (some (.int (-1) 219)),
 FnOk K 227 p_Code_init_ps 5 (dvOf K 220) p_Code_init,
 zeroB (dvOf K 220) = true,
 findIn K (.ref 249) "__init__" = some (some (.ref 227)),
 typeIn K (.ref 227) = some (.type "function")]
noncomputable def L1 (C : Cx) : Prop := AllP (facts C.K)
section
variable {C : Cx}
theorem fn_objects_within (L : L1 C) : FnOk C.K 29 p_objects_within_ps 1 [] p_objects_within := L.at 0 rfl
theorem gl_objects_within (L : L1 C) : GOk C 154 (.raw (.ref 29)) := gok_raw (by decide) (L.at 1 rfl)
theorem ke_objects_within (L : L1 C) : KeepOk C (.ref 29) := .inr (L.at 2 rfl)
theorem fn_Summary_init (L : L1 C) : FnOk C.K 44 p_Summary_init_ps 1 [] p_Summary_init := L.at 3 rfl
theorem in_Summary_init (L : L1 C) : findIn C.K (.ref 54) "__init__" = some (some (.ref 44)) ∧ typeIn C.K (.ref 44) = some (.type "function") := ⟨(L.at 4 rfl), (L.at 5 rfl)⟩
theorem fn_Summary_told_by (L : L1 C) : FnOk C.K 51 p_Summary_told_by_ps 2 [] p_Summary_told_by := L.at 6 rfl
theorem me_Summary_told_by (L : L1 C) : methB C.K 54 226 51 = true := L.at 7 rfl
theorem fn_EscapeFlow_init (L : L1 C) : FnOk C.K 72 p_EscapeFlow_init_ps 3 [] p_EscapeFlow_init := L.at 8 rfl
theorem in_EscapeFlow_init (L : L1 C) : findIn C.K (.ref 208) "__init__" = some (some (.ref 72)) ∧ typeIn C.K (.ref 72) = some (.type "function") := ⟨(L.at 9 rfl), (L.at 10 rfl)⟩
theorem fn_EscapeFlow_tokens_of (L : L1 C) : FnOk C.K 79 p_EscapeFlow_tokens_of_ps 2 [] p_EscapeFlow_tokens_of := L.at 11 rfl
theorem me_EscapeFlow_tokens_of (L : L1 C) : methB C.K 208 223 79 = true := L.at 12 rfl
theorem fn_EscapeFlow_tokens_of_all (L : L1 C) : FnOk C.K 86 p_EscapeFlow_tokens_of_all_ps 2 [] p_EscapeFlow_tokens_of_all := L.at 13 rfl
theorem me_EscapeFlow_tokens_of_all (L : L1 C) : methB C.K 208 224 86 = true := L.at 14 rfl
theorem fn_EscapeFlow_reached (L : L1 C) : FnOk C.K 93 p_EscapeFlow_reached_ps 2 [] p_EscapeFlow_reached := L.at 15 rfl
theorem me_EscapeFlow_reached (L : L1 C) : methB C.K 208 172 93 = true := L.at 16 rfl
theorem fn_EscapeFlow_loaded (L : L1 C) : FnOk C.K 100 p_EscapeFlow_loaded_ps 2 [] p_EscapeFlow_loaded := L.at 17 rfl
theorem me_EscapeFlow_loaded (L : L1 C) : methB C.K 208 126 100 = true := L.at 18 rfl
theorem fn_EscapeFlow_note (L : L1 C) : FnOk C.K 107 p_EscapeFlow_note_ps 3 [] p_EscapeFlow_note := L.at 19 rfl
theorem me_EscapeFlow_note (L : L1 C) : methB C.K 208 152 107 = true := L.at 20 rfl
theorem fn_EscapeFlow_give (L : L1 C) : FnOk C.K 114 p_EscapeFlow_give_ps 3 [] p_EscapeFlow_give := L.at 21 rfl
theorem me_EscapeFlow_give (L : L1 C) : methB C.K 208 94 114 = true := L.at 22 rfl
theorem fn_EscapeFlow_make (L : L1 C) : FnOk C.K 121 p_EscapeFlow_make_ps 3 [] p_EscapeFlow_make := L.at 23 rfl
theorem me_EscapeFlow_make (L : L1 C) : methB C.K 208 137 121 = true := L.at 24 rfl
theorem fn_EscapeFlow_leak (L : L1 C) : FnOk C.K 128 p_EscapeFlow_leak_ps 2 [] p_EscapeFlow_leak := L.at 25 rfl
theorem me_EscapeFlow_leak (L : L1 C) : methB C.K 208 120 128 = true := L.at 26 rfl
theorem fn_EscapeFlow_put (L : L1 C) : FnOk C.K 135 p_EscapeFlow_put_ps 3 [] p_EscapeFlow_put := L.at 27 rfl
theorem me_EscapeFlow_put (L : L1 C) : methB C.K 208 169 135 = true := L.at 28 rfl
theorem fn_EscapeFlow_put_out (L : L1 C) : FnOk C.K 142 p_EscapeFlow_put_out_ps 3 [] p_EscapeFlow_put_out := L.at 29 rfl
theorem me_EscapeFlow_put_out (L : L1 C) : methB C.K 208 170 142 = true := L.at 30 rfl
theorem fn_law_pool (L : L1 C) : FnOk C.K 260 p_law_pool_ps 1 [] p_law_pool := L.at 31 rfl
theorem gl_law_pool (L : L1 C) : GOk C 36 (.raw (.ref 260)) := gok_raw (by decide) (L.at 32 rfl)
theorem ke_law_pool (L : L1 C) : KeepOk C (.ref 260) := .inr (L.at 33 rfl)
theorem fn_law_take (L : L1 C) : FnOk C.K 267 p_law_take_ps 2 [] p_law_take := L.at 34 rfl
theorem gl_law_take (L : L1 C) : GOk C 46 (.raw (.ref 267)) := gok_raw (by decide) (L.at 35 rfl)
theorem ke_law_take (L : L1 C) : KeepOk C (.ref 267) := .inr (L.at 36 rfl)
theorem fn_law_one (L : L1 C) : FnOk C.K 274 p_law_one_ps 2 [] p_law_one := L.at 37 rfl
theorem gl_law_one (L : L1 C) : GOk C 33 (.raw (.ref 274)) := gok_raw (by decide) (L.at 38 rfl)
theorem ke_law_one (L : L1 C) : KeepOk C (.ref 274) := .inr (L.at 39 rfl)
theorem fn_law_flow (L : L1 C) : FnOk C.K 281 p_law_flow_ps 0 [] p_law_flow := L.at 40 rfl
theorem gl_law_flow (L : L1 C) : GOk C 29 (.raw (.ref 281)) := gok_raw (by decide) (L.at 41 rfl)
theorem ke_law_flow (L : L1 C) : KeepOk C (.ref 281) := .inr (L.at 42 rfl)
theorem fn_law_next (L : L1 C) : FnOk C.K 286 p_law_next_ps 2 [] p_law_next := L.at 43 rfl
theorem gl_law_next (L : L1 C) : GOk C 32 (.raw (.ref 286)) := gok_raw (by decide) (L.at 44 rfl)
theorem ke_law_next (L : L1 C) : KeepOk C (.ref 286) := .inr (L.at 45 rfl)
theorem fn_law_all (L : L1 C) : FnOk C.K 291 p_law_all_ps 2 [] p_law_all := L.at 46 rfl
theorem gl_law_all (L : L1 C) : GOk C 24 (.raw (.ref 291)) := gok_raw (by decide) (L.at 47 rfl)
theorem ke_law_all (L : L1 C) : KeepOk C (.ref 291) := .inr (L.at 48 rfl)
theorem fn_law_add (L : L1 C) : FnOk C.K 298 p_law_add_ps 2 [] p_law_add := L.at 49 rfl
theorem gl_law_add (L : L1 C) : GOk C 23 (.raw (.ref 298)) := gok_raw (by decide) (L.at 50 rfl)
theorem ke_law_add (L : L1 C) : KeepOk C (.ref 298) := .inr (L.at 51 rfl)
theorem fn_law_read (L : L1 C) : FnOk C.K 305 p_law_read_ps 2 [] p_law_read := L.at 52 rfl
theorem gl_law_read (L : L1 C) : GOk C 39 (.raw (.ref 305)) := gok_raw (by decide) (L.at 53 rfl)
theorem ke_law_read (L : L1 C) : KeepOk C (.ref 305) := .inr (L.at 54 rfl)
theorem fn_law_out (L : L1 C) : FnOk C.K 312 p_law_out_ps 2 [] p_law_out := L.at 55 rfl
theorem gl_law_out (L : L1 C) : GOk C 35 (.raw (.ref 312)) := gok_raw (by decide) (L.at 56 rfl)
theorem ke_law_out (L : L1 C) : KeepOk C (.ref 312) := .inr (L.at 57 rfl)
theorem fn_law_into (L : L1 C) : FnOk C.K 319 p_law_into_ps 3 [] p_law_into := L.at 58 rfl
theorem gl_law_into (L : L1 C) : GOk C 30 (.raw (.ref 319)) := gok_raw (by decide) (L.at 59 rfl)
theorem ke_law_into (L : L1 C) : KeepOk C (.ref 319) := .inr (L.at 60 rfl)
theorem fn_law_do (L : L1 C) : FnOk C.K 326 p_law_do_ps 2 [] p_law_do := L.at 61 rfl
theorem gl_law_do (L : L1 C) : GOk C 27 (.raw (.ref 326)) := gok_raw (by decide) (L.at 62 rfl)
theorem ke_law_do (L : L1 C) : KeepOk C (.ref 326) := .inr (L.at 63 rfl)
theorem fn_law_done (L : L1 C) : FnOk C.K 333 p_law_done_ps 2 [] p_law_done := L.at 64 rfl
theorem gl_law_done (L : L1 C) : GOk C 28 (.raw (.ref 333)) := gok_raw (by decide) (L.at 65 rfl)
theorem ke_law_done (L : L1 C) : KeepOk C (.ref 333) := .inr (L.at 66 rfl)
theorem fn_law_size (L : L1 C) : FnOk C.K 338 p_law_size_ps 3 [] p_law_size := L.at 67 rfl
theorem gl_law_size (L : L1 C) : GOk C 44 (.raw (.ref 338)) := gok_raw (by decide) (L.at 68 rfl)
theorem ke_law_size (L : L1 C) : KeepOk C (.ref 338) := .inr (L.at 69 rfl)
theorem fn_law_deeds (L : L1 C) : FnOk C.K 345 p_law_deeds_ps 1 [] p_law_deeds := L.at 70 rfl
theorem gl_law_deeds (L : L1 C) : GOk C 26 (.raw (.ref 345)) := gok_raw (by decide) (L.at 71 rfl)
theorem ke_law_deeds (L : L1 C) : KeepOk C (.ref 345) := .inr (L.at 72 rfl)
theorem fn_law_stands (L : L1 C) : FnOk C.K 350 p_law_stands_ps 2 [] p_law_stands := L.at 73 rfl
theorem gl_law_stands (L : L1 C) : GOk C 45 (.raw (.ref 350)) := gok_raw (by decide) (L.at 74 rfl)
theorem ke_law_stands (L : L1 C) : KeepOk C (.ref 350) := .inr (L.at 75 rfl)
theorem fn_law_operands_right (L : L1 C) : FnOk C.K 357 p_law_operands_right_ps 2 [] p_law_operands_right := L.at 76 rfl
theorem gl_law_operands_right (L : L1 C) : GOk C 34 (.raw (.ref 357)) := gok_raw (by decide) (L.at 77 rfl)
theorem ke_law_operands_right (L : L1 C) : KeepOk C (.ref 357) := .inr (L.at 78 rfl)
theorem cl_Summary (L : L1 C) : clsB C.K 54 = true := L.at 79 rfl
theorem gl_Summary (L : L1 C) : GOk C 18 (.raw (.ref 54)) := gok_raw (by decide) (L.at 80 rfl)
theorem cl_EscapeFlow (L : L1 C) : clsB C.K 208 = true := L.at 81 rfl
theorem gl_EscapeFlow (L : L1 C) : GOk C 16 (.raw (.ref 208)) := gok_raw (by decide) (L.at 82 rfl)
theorem cl_Code (L : L1 C) : clsB C.K 249 = true := L.at 83 rfl
theorem gl_Code (L : L1 C) : GOk C 15 (.raw (.ref 249)) := gok_raw (by decide) (L.at 84 rfl)
theorem at_Summary_leaks (L : L1 C) : attrB C.K 54 121 = true := L.at 85 rfl
theorem at_Summary_kept (L : L1 C) : attrB C.K 54 113 = true := L.at 86 rfl
theorem at_Summary_told (L : L1 C) : attrB C.K 54 225 = true := L.at 87 rfl
theorem at_EscapeFlow_code (L : L1 C) : attrB C.K 208 71 = true := L.at 88 rfl
theorem at_EscapeFlow_summaries (L : L1 C) : attrB C.K 208 213 = true := L.at 89 rfl
theorem at_EscapeFlow_held (L : L1 C) : attrB C.K 208 101 = true := L.at 90 rfl
theorem at_EscapeFlow_inside (L : L1 C) : attrB C.K 208 104 = true := L.at 91 rfl
theorem at_EscapeFlow_sites (L : L1 C) : attrB C.K 208 203 = true := L.at 92 rfl
theorem at_EscapeFlow_gone (L : L1 C) : attrB C.K 208 97 = true := L.at 93 rfl
theorem at_EscapeFlow_summary (L : L1 C) : attrB C.K 208 214 = true := L.at 94 rfl
theorem at_EscapeFlow_is_new (L : L1 C) : attrB C.K 208 108 = true := L.at 95 rfl
theorem at_Code_key (L : L1 C) : attrB C.K 249 114 = true := L.at 96 rfl
theorem at_Code_params (L : L1 C) : attrB C.K 249 164 = true := L.at 97 rfl
theorem at_Code_registers (L : L1 C) : attrB C.K 249 178 = true := L.at 98 rfl
theorem at_Code_blocks (L : L1 C) : attrB C.K 249 56 = true := L.at 99 rfl
theorem at_Code_captured (L : L1 C) : attrB C.K 249 62 = true := L.at 100 rfl
theorem at_Code_results (L : L1 C) : attrB C.K 249 179 = true := L.at 101 rfl
theorem at_Code_recovery (L : L1 C) : attrB C.K 249 174 = true := L.at 102 rfl
theorem gl_isinstance (L : L1 C) : GOk C 109 (.raw (.builtin "isinstance")) := gok_boot (by decide) (L.at 103 rfl) (by kernel_rfl) (by decide +kernel)
theorem gl_len (L : L1 C) : GOk C 123 (.raw (.builtin "len")) := gok_boot (by decide) (L.at 104 rfl) (by kernel_rfl) (by decide +kernel)
theorem gl_max (L : L1 C) : GOk C 145 (.raw (.builtin "max")) := gok_boot (by decide) (L.at 105 rfl) (by kernel_rfl) (by decide +kernel)
theorem gl_sum (L : L1 C) : GOk C 212 (.raw (.builtin "sum")) := gok_boot (by decide) (L.at 106 rfl) (by kernel_rfl) (by decide +kernel)
theorem gl_sorted (L : L1 C) : GOk C 207 (.raw (.builtin "sorted")) := gok_boot (by decide) (L.at 107 rfl) (by kernel_rfl) (by decide +kernel)
theorem gl_tuple (L : L1 C) : GOk C 228 (.raw (.type "tuple")) := gok_boot (by decide) (L.at 108 rfl) (by kernel_rfl) (by decide +kernel)
theorem gl_list (L : L1 C) : GOk C 124 (.raw (.type "list")) := gok_boot (by decide) (L.at 109 rfl) (by kernel_rfl) (by decide +kernel)
theorem gl_range (L : L1 C) : GOk C 171 (.raw (.type "range")) := gok_boot (by decide) (L.at 110 rfl) (by kernel_rfl) (by decide +kernel)
theorem gl_BEYOND (L : L1 C) : GOk C 14 (.tup [.str 54]) := gok_mg (rv := .ref 30) (by decide) (L.at 111 rfl) fun ι h hk => tupB_R (is := [54]) (L.at 112 rfl) hk
theorem gl_REFERRING (L : L1 C) : GOk C 17 (.tup ([168, 205, 142, 65, 110].map MV.str)) := gok_mg (rv := .ref 22) (by decide) (L.at 113 rfl) fun ι h hk => tupB_R (is := [168, 205, 142, 65, 110]) (L.at 114 rfl) hk
theorem gl_UNKNOWN (L : L1 C) : GOk C 20 (.int (-1)) := gok_int (t := 219) (by decide) (L.at 115 rfl)
theorem fn_Code_init (L : L1 C) : FnOk C.K 227 p_Code_init_ps 5 (dvOf C.K 220) p_Code_init := L.at 116 rfl
theorem dv_Code_init (L : L1 C) {ι : List Addr} {h : Heap} : VRs ι h [.int 0, .int 0, .none] (dvOf C.K 220) := zeroB_R (L.at 117 rfl)
theorem in_Code_init (L : L1 C) : findIn C.K (.ref 249) "__init__" = some (some (.ref 227)) ∧ typeIn C.K (.ref 227) = some (.type "function") := ⟨(L.at 118 rfl), (L.at 119 rfl)⟩
end
end Mine
namespace Mine
open PySem PySem.W PyProof.Rows PySem.Calls PySem.Spec PySem.SeqAt
noncomputable def chg (ch : List (Nat × MO)) (i : Nat) : Option MO := (ch.find? fun p => p.1 == i).map (·.2)
structure Upd (σ σ' : MH) (ch : List (Nat × MO)) : Prop where
 len : σ.length ≤ σ'.length
 get : ∀ i o, σ[i]? = some o → σ'[i]? = some ((chg ch i).getD o)
theorem Upd.refl (σ : MH) : Upd σ σ [] := ⟨Nat.le_refl _, fun _ _ h => h⟩
theorem Upd.new (σ : MH) (l : MH) : Upd σ (σ ++ l) [] := ⟨by simp, fun i o h => by
 rw [List.getElem?_append_left (List.getElem?_eq_some_iff.mp h).1]; exact h⟩
theorem Upd.set (σ : MH) (i : Nat) (o : MO) : Upd σ (σ.set i o) [(i, o)] := ⟨by simp, fun j o' h => by
 have hlt := (List.getElem?_eq_some_iff.mp h).1
 by_cases e : i = j
 ·subst e; simp [chg, List.getElem?_set_self hlt]
 ·rw [List.getElem?_set_ne e]; simp [chg, e, h]⟩
theorem chg_append (a b : List (Nat × MO)) (i : Nat) : chg (a ++ b) i = (chg a i).or (chg b i) := by
 unfold chg
 rw [List.find?_append]
 cases (a.find? fun p => p.1 == i) <;> simp
theorem Upd.trans {σ σ₁ σ₂ : MH} {a b : List (Nat × MO)} (h : Upd σ σ₁ a) (h' : Upd σ₁ σ₂ b) : Upd σ σ₂ (b ++ a) :=
 ⟨Nat.le_trans h.len h'.len, fun i o e => by
  rw [h'.get i _ (h.get i o e), chg_append]
  cases chg b i <;> rfl⟩
theorem Upd.nil2 {σ σ₁ σ₂ : MH} (h : Upd σ σ₁ []) (h' : Upd σ₁ σ₂ []) : Upd σ σ₂ [] := h.trans h'
theorem Upd.old {σ σ' : MH} {ch : List (Nat × MO)} (h : Upd σ σ' ch) {i : Nat} {o : MO} (hi : σ[i]? = some o) (hc : chg ch i = none) : σ'[i]? = some o := by
 rw [h.get i o hi, hc]; rfl
theorem Upd.keep {σ σ' : MH} (h : Upd σ σ' []) {i : Nat} {o : MO} (hi : σ[i]? = some o) : σ'[i]? = some o := h.old hi rfl
theorem chg_none {ch : List (Nat × MO)} {i : Nat} (h : ∀ p ∈ ch, p.1 ≠ i) : chg ch i = none := by
 unfold chg
 rw [Option.map_eq_none_iff, List.find?_eq_none]
 intro p hp; simpa using h p hp
theorem Upd.fresh {σ σ' : MH} {ch : List (Nat × MO)} (h : Upd σ σ' ch) (hf : ∀ p ∈ ch, σ.length ≤ p.1) : Upd σ σ' [] :=
 ⟨h.len, fun i o e => by
  rw [h.get i o e, chg_none fun p hp q => by have := (List.getElem?_eq_some_iff.mp e).1; have := hf p hp; lia]; rfl⟩
theorem get_new (σ : MH) (o : MO) : (σ ++ [o])[σ.length]? = some o := by simp
theorem tx_append : tx 49 = Str.ofString "append" := by decide +kernel
theorem tx_extend : tx 85 = Str.ofString "extend" := by decide +kernel
theorem tx_pop : tx 166 = Str.ofString "pop" := by decide +kernel
theorem tx_get : tx 93 = Str.ofString "get" := by decide +kernel
theorem tx_setdefault : tx 201 = Str.ofString "setdefault" := by decide +kernel
theorem bm_append : BMeth "list" 49 "list.append" := ⟨by rw [tx_append]; exact slot_list_append, PySem.F.type_list_append, PySem.F.plainAttrs_list⟩
theorem bm_extend : BMeth "list" 85 "list.extend" := ⟨by rw [tx_extend]; exact PySem.F.slot_list_extend, PySem.F.type_list_extend, PySem.F.plainAttrs_list⟩
theorem bm_pop : BMeth "list" 166 "list.pop" := ⟨by rw [tx_pop]; exact PySem.F.slot_list_pop, PySem.F.type_list_pop, PySem.F.plainAttrs_list⟩
theorem bm_get : BMeth "dict" 93 "dict.get" := ⟨by rw [tx_get]; exact PySem.F.slot_dict_get, PySem.F.type_dict_get, PySem.F.plainAttrs_dict⟩
theorem bm_setdefault : BMeth "dict" 201 "dict.setdefault" := ⟨by rw [tx_setdefault]; exact PySem.F.slot_dict_setdefault, PySem.F.type_dict_setdefault, PySem.F.plainAttrs_dict⟩
theorem kind_list {σ : MH} {i : Nat} {xs : List MV} (h : σ[i]? = some (.list xs)) : kindOf σ (.loc i) = "list" := by simp [kindOf, h]
theorem kind_dict {σ : MH} {i ep : Nat} {es : List (MV × MV)} (h : σ[i]? = some (.dict ep es)) : kindOf σ (.loc i) = "dict" := by simp [kindOf, h]
end Mine
namespace Mine
open PySem PySem.W PyProof.Rows PySem.Calls PySem.Spec PySem.SeqAt
noncomputable def tds (ks : List MV) : List (MV × MV) := ks.map fun k => (k, .bool true)
noncomputable def hasM (ks : List MV) (k : MV) : Bool := ks.any fun x => x.beq k
noncomputable def addM (ks : List MV) (k : MV) : List MV := if hasM ks k then ks else ks ++ [k]
theorem hasM_iff {ks : List MV} {k : MV} : hasM ks k = true ↔ k ∈ ks := by
 simp only [hasM, List.any_eq_true, MV.beq_iff]
 exact ⟨fun ⟨x, h1, h2⟩ => h2 ▸ h1, fun h => ⟨k, h, rfl⟩⟩
theorem dhas_tds {ks : List MV} {k : MV} : dhas (tds ks) k = hasM ks k := by
 unfold dhas tds hasM; rw [List.any_map]; rfl
theorem keys_tds (ks : List MV) : (tds ks).map (·.1) = ks := by unfold tds; simp [Function.comp_def]
theorem dput_tds (ks : List MV) (k : MV) : dput (tds ks) k (.bool true) = tds ks := by
 unfold dput tds
 rw [List.map_map]
 apply List.map_congr_left
 intro x _
 simp only [Function.comp]
 split <;> rfl
theorem dsto_tds {ep : Nat} {ks : List MV} {k : MV} : ∃ ep', dsto ep (tds ks) k (.bool true) = .dict ep' (tds (addM ks k)) := by
 unfold dsto addM
 rw [dhas_tds]
 split
 ·exact ⟨ep, by rw [dput_tds]⟩
 ·exact ⟨ep + 1, by simp [tds]⟩
theorem mem_addM {ks : List MV} {k x : MV} : x ∈ addM ks k ↔ x ∈ ks ∨ x = k := by
 unfold addM
 split
 ·rename_i h
  exact ⟨.inl, fun q => q.elim id fun e => e ▸ hasM_iff.mp h⟩
 ·simp
theorem addM_nodup {ks : List MV} {k : MV} (h : ks.Nodup) : (addM ks k).Nodup := by
 unfold addM
 split
 ·exact h
 ·rename_i hk
  rw [List.nodup_append]
  refine ⟨h, by simp, fun a ha b hb e => hk ?_⟩
  rw [List.mem_singleton] at hb
  subst hb; subst e; exact hasM_iff.mpr ha
theorem addM_length {ks : List MV} {k : MV} : (addM ks k).length ≤ ks.length + 1 := by
 unfold addM; split <;> simp
theorem addM_prefix {ks : List MV} {k : MV} : ks <+: addM ks k := by
 unfold addM; split
 ·exact List.prefix_refl _
 ·exact List.prefix_append _ _
noncomputable def FitK (ks : List MV) (k : MV) : Prop := (k.isAtom ∧ ∀ x ∈ ks, x.isAtom) ∨ (k.isFlat ∧ ∀ x ∈ ks, x.isFlat)
theorem fits_tds {ks : List MV} {k : MV} (h : FitK ks k) : Fits (tds ks) k := by
 rcases h with ⟨h1, h2⟩ | ⟨h1, h2⟩
 ·exact .inl ⟨h1, fun e he => by obtain ⟨x, hx, rfl⟩ := List.mem_map.mp he; exact h2 x hx⟩
 ·exact .inr ⟨h1, fun e he => by obtain ⟨x, hx, rfl⟩ := List.mem_map.mp he; exact h2 x hx⟩
section
variable {C : Cx} {n : Nat} {σ σ' : MH} {f t ep : Nat} {as : List (Nat × MV)} {ks : List MV} {k : MV}
theorem setD_tds {i : Nat} (hi : σ[i]? = some (.dict ep (tds ks))) (hf : FitK ks k) (hz : ks.length < 1000) : ∃ ep', OpU C (n + 1) [.loc i, k, .bool true] σ setF (σ.set i (.dict ep' (tds (addM ks k)))) := by
 obtain ⟨ep', h⟩ := dsto_tds (ep := ep) (ks := ks) (k := k)
 exact ⟨ep', by rw [← h]; exact OpU.setD hi (fits_tds hf) (by rw [sizeLine_eq]; simp [tds]; lia)⟩
theorem notIn_tds {i : Nat} (hi : σ[i]? = some (.dict ep (tds ks))) (hf : FitK ks k) : Op C (n + 1) [k, .loc i] σ (cmpF .NotIn) (.bool (!hasM ks k)) σ := by
 have := Op.notInD (C := C) (n := n) hi (fits_tds hf)
 rwa [dhas_tds] at this
theorem in_tds {i : Nat} (hi : σ[i]? = some (.dict ep (tds ks))) (hf : FitK ks k) : Op C (n + 1) [k, .loc i] σ (cmpF .In) (.bool (hasM ks k)) σ := by
 have := Op.inD (C := C) (n := n) hi (fits_tds hf)
 rwa [dhas_tds] at this
theorem note_spec (L : L1 C) (hf : σ[f]? = some (.ns as)) (ht : σ[t]? = some (.dict ep (tds ks))) (hfit : FitK ks k) (hz : ks.length < 1000) :
  E3 fun σ' as' ep' => N3 (CallEv C (n + 2) (.ref 107) [.inst 208 f, .loc t, k] σ .none σ') (Upd σ σ' [(f, .ns as'), (t, .dict ep' (tds (addM ks k)))]) (∀ a, a ≠ 108 → alook as' a = alook as a) := by
 have hft : t ≠ f := fun e => by rw [e, hf] at ht; cases ht
 by_cases hk : hasM ks k = true
 ·have hadd : addM ks k = ks := by unfold addM; rw [if_pos hk]
  refine ⟨σ, as, ep, .fn (fn_EscapeFlow_note L) (Xs.cons (X1.ite_f (Tst.cmp (.var rfl) (.var rfl) (by have := notIn_tds (C := C) (n := n) ht hfit; rw [hk] at this; exact this)) .nil) .nil) (.inr ⟨rfl, rfl⟩), ⟨Nat.le_refl _, fun i o h => ?_⟩, fun _ _ => rfl⟩
  rw [hadd]
  by_cases h1 : i = f
  ·subst h1; rw [hf] at h; cases h; simp [chg, hf]
  ·by_cases h2 : i = t
   ·subst h2; rw [ht] at h; cases h; simp [chg, Ne.symm h1, ht]
   ·simp [chg, Ne.symm h1, Ne.symm h2, h]
 ·have hk' : hasM ks k = false := by simpa using hk
  obtain ⟨ep', hset⟩ := setD_tds (C := C) (n := n) ht hfit hz
  have hf' : (σ.set t (.dict ep' (tds (addM ks k))))[f]? = some (.ns as) := by rw [List.getElem?_set_ne hft]; exact hf
  refine ⟨_, _, ep', .fn (fn_EscapeFlow_note L) (Xs.cons (X1.ite_t (Tst.cmp (.var rfl) (.var rfl) (by have := notIn_tds (C := C) (n := n) ht hfit; rw [hk'] at this; exact this))
   (Xs.cons (X1.seti .lit (.var rfl) (.var rfl) hset) (Xs.cons (X1.seta .lit (.var rfl) hf' (cl_EscapeFlow L) (at_EscapeFlow_is_new L)) .nil))) .nil) (.inr ⟨rfl, rfl⟩), (Upd.set ..).trans (Upd.set ..), fun a ha => alook_aset_ne _ _ ha⟩
end
end Mine
namespace Mine
open PySem PySem.W PyProof.Rows PySem.Calls PySem.Spec PySem.SeqAt
set_option genInjectivity false
structure TS where
 held : List (Int × Nat)
 inside : List (Nat × Nat)
 sites : Nat
 gone : Nat
 leaks : Nat
 kept : Nat
 T : Nat → List MV
namespace TS
noncomputable def tabs (S : TS) : List Nat := [S.sites, S.gone, S.leaks, S.kept] ++ S.held.map (·.2) ++ S.inside.map (·.2)
noncomputable def put (S : TS) (t : Nat) (ks : List MV) : TS := { S with T := fun x => if x = t then ks else S.T x }
@[simp] theorem put_tabs (S : TS) (t : Nat) (ks : List MV) : (S.put t ks).tabs = S.tabs := rfl
end TS
noncomputable def sv (k : Nat) : MV := .tup [.str 202, .str k]
noncomputable def ov (o : Int) : MV := .tup [.str 162, .int o]
noncomputable def bv : MV := .tup [.str 54]
inductive TokOk : MV → Prop where
 | site {k : Nat} : k ∈ [48, 53, 59, 76] → TokOk (sv k)
 | outer {o : Int} : o ∈ [(0 : Int), 1] → TokOk (ov o)
 | beyond : TokOk bv
noncomputable def SiteOk (v : MV) : Prop := ∃ k ∈ [48, 53, 59, 76], v = .str k
noncomputable def OutOk (v : MV) : Prop := ∃ o ∈ [(0 : Int), 1], v = .int o
noncomputable def KeptOk (v : MV) : Prop := ∃ i ∈ [(-1 : Int), 0, 1], ∃ o ∈ [(0 : Int), 1], v = .tup [.int i, .int o]
structure TOK (S : TS) : Prop where
 nodup : S.tabs.Nodup
 keysH : (S.held.map (·.1)).Nodup
 keysI : (S.inside.map (·.1)).Nodup
 regs : ∀ e ∈ S.held, 0 ≤ e.1 ∧ e.1 < 6
 sits : ∀ e ∈ S.inside, e.1 ∈ [48, 53, 59, 76]
 rows : ∀ t ∈ S.tabs, (S.T t).Nodup
 toks : ∀ t, (t ∈ S.held.map (·.2) ∨ t ∈ S.inside.map (·.2)) → ∀ v ∈ S.T t, TokOk v
 site : ∀ v ∈ S.T S.sites, SiteOk v
 gon : ∀ v ∈ S.T S.gone, SiteOk v
 leak : ∀ v ∈ S.T S.leaks, OutOk v
 kep : ∀ v ∈ S.T S.kept, KeptOk v
theorem length_le_of_sub {α : Type} : ∀ {xs ys : List α}, xs.Nodup → (∀ x ∈ xs, x ∈ ys) → xs.length ≤ ys.length
 | [], _, _, _ => Nat.zero_le _
 | x :: xs, ys, hn, h => by
  classical
  rw [List.nodup_cons] at hn
  have hx : x ∈ ys := h x (by simp)
  have := length_le_of_sub (xs := xs) (ys := ys.erase x) hn.2 fun y hy => by
   have hne : y ≠ x := fun e => hn.1 (e ▸ hy)
   exact (List.mem_erase_of_ne hne).mpr (h y (by simp [hy]))
  rw [List.length_erase_of_mem hx] at this
  have hpos : 0 < ys.length := List.length_pos_of_mem hx
  simp; lia
noncomputable def allToks : List MV := [sv 48, sv 53, sv 59, sv 76, ov 0, ov 1, bv]
theorem TokOk.mem {v : MV} (h : TokOk v) : v ∈ allToks := by
 cases h with
 | site hk => simp at hk; rcases hk with rfl | rfl | rfl | rfl <;> simp [allToks]
 | outer ho => simp at ho; rcases ho with rfl | rfl <;> simp [allToks]
 | beyond => simp [allToks]
noncomputable def allSites : List MV := [.str 48, .str 53, .str 59, .str 76]
noncomputable def allKept : List MV := [.tup [.int (-1), .int 0], .tup [.int (-1), .int 1], .tup [.int 0, .int 0], .tup [.int 0, .int 1], .tup [.int 1, .int 0], .tup [.int 1, .int 1]]
theorem SiteOk.mem {v : MV} (h : SiteOk v) : v ∈ allSites := by
 obtain ⟨k, hk, rfl⟩ := h
 simp at hk; rcases hk with rfl | rfl | rfl | rfl <;> simp [allSites]
theorem OutOk.mem {v : MV} (h : OutOk v) : v ∈ [MV.int 0, MV.int 1] := by
 obtain ⟨k, hk, rfl⟩ := h
 simp at hk; rcases hk with rfl | rfl <;> simp
theorem KeptOk.mem {v : MV} (h : KeptOk v) : v ∈ allKept := by
 obtain ⟨i, hi, o, ho, rfl⟩ := h
 simp at hi ho; rcases hi with rfl | rfl | rfl <;> rcases ho with rfl | rfl <;> simp [allKept]
theorem TokOk.flat {v : MV} (h : TokOk v) : v.isFlat := by
 cases h with
 | site hk =>
  refine ⟨_, rfl, fun x hx => ?_⟩
  simp at hx hk
  rcases hx with rfl | rfl
  ·exact ⟨_, by simp [atomOf]; exact ⟨_, List.getElem?_eq_getElem (by rw [tab_len]; decide), rfl⟩⟩
  ·exact ⟨_, by simp [atomOf]; exact ⟨_, List.getElem?_eq_getElem (by rw [tab_len]; rcases hk with rfl | rfl | rfl | rfl <;> decide), rfl⟩⟩
 | outer ho =>
  refine ⟨_, rfl, fun x hx => ?_⟩
  simp at hx
  rcases hx with rfl | rfl
  ·exact ⟨_, by simp [atomOf]; exact ⟨_, List.getElem?_eq_getElem (by rw [tab_len]; decide), rfl⟩⟩
  ·exact ⟨_, rfl⟩
 | beyond =>
  refine ⟨_, rfl, fun x hx => ?_⟩
  simp at hx; subst hx
  exact ⟨_, by simp [atomOf]; exact ⟨_, List.getElem?_eq_getElem (by rw [tab_len]; decide), rfl⟩⟩
theorem str_atom {k : Nat} (h : k < tabN) : (MV.str k).isAtom := ⟨_, by simp [atomOf]; exact ⟨_, List.getElem?_eq_getElem (by rw [tab_len]; exact h), rfl⟩⟩
theorem SiteOk.atom {v : MV} (h : SiteOk v) : v.isAtom := by
 obtain ⟨k, hk, rfl⟩ := h
 simp at hk
 exact str_atom (by rcases hk with rfl | rfl | rfl | rfl <;> decide)
theorem OutOk.atom {v : MV} (h : OutOk v) : v.isAtom := by obtain ⟨k, hk, rfl⟩ := h; exact ⟨_, rfl⟩
theorem KeptOk.flat {v : MV} (h : KeptOk v) : v.isFlat := by
 obtain ⟨i, hi, o, ho, rfl⟩ := h
 exact ⟨_, rfl, fun x hx => by simp at hx; rcases hx with rfl | rfl <;> exact ⟨_, rfl⟩⟩
noncomputable def Takes (S : TS) (t : Nat) (k : MV) : Prop :=
 ((t ∈ S.held.map (·.2) ∨ t ∈ S.inside.map (·.2)) ∧ TokOk k) ∨ (t = S.sites ∧ SiteOk k) ∨ (t = S.gone ∧ SiteOk k) ∨ (t = S.leaks ∧ OutOk k) ∨ (t = S.kept ∧ KeptOk k)
section
variable {S : TS} {t : Nat} {k : MV}
theorem Takes.mem (h : Takes S t k) : t ∈ S.tabs := by
 simp only [TS.tabs, List.mem_append, List.mem_cons, List.not_mem_nil, or_false]
 rcases h with ⟨h | h, _⟩ | ⟨rfl, _⟩ | ⟨rfl, _⟩ | ⟨rfl, _⟩ | ⟨rfl, _⟩
 ·exact .inl (.inr h)
 ·exact .inr h
 all_goals simp
theorem TOK.length (W : TOK S) (ht : t ∈ S.tabs) : (S.T t).length ≤ 7 := by
 have hn := W.rows t ht
 simp only [TS.tabs, List.mem_append, List.mem_cons, List.not_mem_nil, or_false] at ht
 rcases ht with ((rfl | rfl | rfl | rfl) | h) | h
 ·exact Nat.le_trans (length_le_of_sub hn fun x hx => (W.site x hx).mem) (by decide)
 ·exact Nat.le_trans (length_le_of_sub hn fun x hx => (W.gon x hx).mem) (by decide)
 ·exact Nat.le_trans (length_le_of_sub hn fun x hx => (W.leak x hx).mem) (by decide)
 ·exact Nat.le_trans (length_le_of_sub hn fun x hx => (W.kep x hx).mem) (by decide)
 ·exact Nat.le_trans (length_le_of_sub hn fun x hx => (W.toks t (.inl h) x hx).mem) (by decide)
 ·exact Nat.le_trans (length_le_of_sub hn fun x hx => (W.toks t (.inr h) x hx).mem) (by decide)
theorem tab_apart (W : TOK S) : S.sites ≠ S.gone ∧ S.sites ≠ S.leaks ∧ S.sites ≠ S.kept ∧ S.gone ≠ S.leaks ∧ S.gone ≠ S.kept ∧ S.leaks ≠ S.kept ∧
  ∀ x, (x ∈ S.held.map (·.2) ∨ x ∈ S.inside.map (·.2)) → x ≠ S.sites ∧ x ≠ S.gone ∧ x ≠ S.leaks ∧ x ≠ S.kept := by
 have hn := W.nodup
 simp only [TS.tabs, List.cons_append, List.nil_append, List.nodup_cons, List.mem_cons, List.mem_append, not_or] at hn
 obtain ⟨⟨a1, a2, a3, a4⟩, ⟨b2, b3, b4⟩, ⟨c3, c4⟩, d4, _⟩ := hn
 refine ⟨a1, a2, a3, b2, b3, c3, fun x hx => ⟨?_, ?_, ?_, ?_⟩⟩ <;> rintro rfl
 ·exact hx.elim a4.1 a4.2
 ·exact hx.elim b4.1 b4.2
 ·exact hx.elim c4.1 c4.2
 ·exact hx.elim d4.1 d4.2
theorem TOK.put (W : TOK S) (h : Takes S t k) : TOK (S.put t (addM (S.T t) k)) := by
 obtain ⟨p1, p2, p3, p4, p5, p6, p7⟩ := tab_apart W
 have low : ∀ (P : MV → Prop) (x : Nat), (∀ v ∈ S.T x, P v) → (x = t → P k) → ∀ v ∈ (S.put t (addM (S.T t) k)).T x, P v := fun P x h1 h2 v hv => by
  by_cases e : x = t
  ·subst e
   have : v ∈ addM (S.T x) k := by simpa [TS.put] using hv
   rcases mem_addM.mp this with q | q
   ·exact h1 v q
   ·rw [q]; exact h2 rfl
  ·have : v ∈ S.T x := by simpa [TS.put, e] using hv
   exact h1 v this
 refine ⟨W.nodup, W.keysH, W.keysI, W.regs, W.sits, fun x hx => ?_, fun x hx => ?_, ?_, ?_, ?_, ?_⟩
 ·by_cases e : x = t
  ·subst e
   have : (S.put x (addM (S.T x) k)).T x = addM (S.T x) k := by simp [TS.put]
   rw [this]; exact addM_nodup (W.rows x hx)
  ·have : (S.put t (addM (S.T t) k)).T x = S.T x := by simp [TS.put, e]
   rw [this]; exact W.rows x hx
 ·refine low TokOk x (W.toks x hx) fun e => ?_
  subst e
  rcases h with ⟨_, q⟩ | ⟨rfl, _⟩ | ⟨rfl, _⟩ | ⟨rfl, _⟩ | ⟨rfl, _⟩
  ·exact q
  ·exact absurd rfl (p7 _ hx).1
  ·exact absurd rfl (p7 _ hx).2.1
  ·exact absurd rfl (p7 _ hx).2.2.1
  ·exact absurd rfl (p7 _ hx).2.2.2
 ·refine low SiteOk S.sites W.site fun e => ?_
  rcases h with ⟨q, _⟩ | ⟨_, q⟩ | ⟨q, _⟩ | ⟨q, _⟩ | ⟨q, _⟩
  ·exact absurd e.symm (p7 _ q).1
  ·exact q
  ·exact absurd (e.trans q) p1
  ·exact absurd (e.trans q) p2
  ·exact absurd (e.trans q) p3
 ·refine low SiteOk S.gone W.gon fun e => ?_
  rcases h with ⟨q, _⟩ | ⟨q, _⟩ | ⟨_, q⟩ | ⟨q, _⟩ | ⟨q, _⟩
  ·exact absurd e.symm (p7 _ q).2.1
  ·exact absurd (e.trans q).symm p1
  ·exact q
  ·exact absurd (e.trans q) p4
  ·exact absurd (e.trans q) p5
 ·refine low OutOk S.leaks W.leak fun e => ?_
  rcases h with ⟨q, _⟩ | ⟨q, _⟩ | ⟨q, _⟩ | ⟨_, q⟩ | ⟨q, _⟩
  ·exact absurd e.symm (p7 _ q).2.2.1
  ·exact absurd (e.trans q).symm p2
  ·exact absurd (e.trans q).symm p4
  ·exact q
  ·exact absurd (e.trans q) p6
 ·refine low KeptOk S.kept W.kep fun e => ?_
  rcases h with ⟨q, _⟩ | ⟨q, _⟩ | ⟨q, _⟩ | ⟨q, _⟩ | ⟨_, q⟩
  ·exact absurd e.symm (p7 _ q).2.2.2
  ·exact absurd (e.trans q).symm p3
  ·exact absurd (e.trans q).symm p5
  ·exact absurd (e.trans q).symm p6
  ·exact q
theorem TOK.fit (W : TOK S) (h : Takes S t k) : FitK (S.T t) k := by
 rcases h with ⟨q, hk⟩ | ⟨rfl, hk⟩ | ⟨rfl, hk⟩ | ⟨rfl, hk⟩ | ⟨rfl, hk⟩
 ·exact .inr ⟨hk.flat, fun x hx => (W.toks t q x hx).flat⟩
 ·exact .inl ⟨hk.atom, fun x hx => (W.site x hx).atom⟩
 ·exact .inl ⟨hk.atom, fun x hx => (W.gon x hx).atom⟩
 ·exact .inl ⟨hk.atom, fun x hx => (W.leak x hx).atom⟩
 ·exact .inr ⟨hk.flat, fun x hx => (W.kep x hx).flat⟩
end
structure FL where
 f : Nat
 lm : Nat
 lh : Nat
 li : Nat
 lt : Nat
structure FlowAt (σ : MH) (L : FL) (S : TS) : Prop where
 ok : TOK S
 ns : ∃ as, σ[L.f]? = some (.ns as) ∧ alook as 101 = some (.loc L.lh) ∧ alook as 104 = some (.loc L.li) ∧ alook as 203 = some (.loc S.sites) ∧ alook as 97 = some (.loc S.gone) ∧ alook as 214 = some (.inst 54 L.lm)
 only : ∀ as, σ[L.f]? = some (.ns as) → ∀ a, a ∉ [71, 213, 101, 104, 203, 97, 214, 108] → alook as a = none
 sm : ∃ as, σ[L.lm]? = some (.ns as) ∧ alook as 121 = some (.loc S.leaks) ∧ alook as 113 = some (.loc S.kept) ∧ alook as 225 = some (.loc L.lt)
 held : ∃ ep, σ[L.lh]? = some (.dict ep (S.held.map fun e => (.int e.1, .loc e.2)))
 inside : ∃ ep, σ[L.li]? = some (.dict ep (S.inside.map fun e => (.str e.1, .loc e.2)))
 tab : ∀ t ∈ S.tabs, ∃ ep, σ[t]? = some (.dict ep (tds (S.T t)))
 apart : L.lh ∉ S.tabs ∧ L.li ∉ S.tabs ∧ L.lh ≠ L.li ∧ L.lm ≠ L.f
noncomputable def own (L : FL) (S : TS) : List Nat := L.f :: L.lh :: L.li :: S.tabs
structure Kp (D : List Nat) (σ σ' : MH) : Prop where
 len : σ.length ≤ σ'.length
 keep : ∀ i o, i ∉ D → σ[i]? = some o → σ'[i]? = some o
theorem Kp.refl (D : List Nat) (σ : MH) : Kp D σ σ := ⟨Nat.le_refl _, fun _ _ _ h => h⟩
theorem Kp.up {D : List Nat} {σ σ' : MH} (h : Kp [] σ σ') : Kp D σ σ' := ⟨h.len, fun i o _ e => h.keep i o List.not_mem_nil e⟩
theorem Kp.get {σ σ' : MH} (h : Kp [] σ σ') {i : Nat} {o : MO} (e : σ[i]? = some o) : σ'[i]? = some o := h.keep i o List.not_mem_nil e
theorem Kp.trans {D D' : List Nat} {σ σ₁ σ₂ : MH} (h : Kp D σ σ₁) (h' : Kp D' σ₁ σ₂) (hd : ∀ a ∈ D', a ∈ D ∨ σ.length ≤ a) : Kp D σ σ₂ :=
 ⟨Nat.le_trans h.len h'.len, fun i o hi e => h'.keep i o (fun q => (hd i q).elim hi fun x => by have := (List.getElem?_eq_some_iff.mp e).1; lia) (h.keep i o hi e)⟩
theorem Kp.trans' {D : List Nat} {σ σ₁ σ₂ : MH} (h : Kp D σ σ₁) (h' : Kp D σ₁ σ₂) : Kp D σ σ₂ := h.trans h' fun _ q => .inl q
theorem Kp.weak {D D' : List Nat} {σ σ' : MH} (h : Kp D σ σ') (hd : ∀ a ∈ D, a ∈ D' ∨ σ.length ≤ a) : Kp D' σ σ' :=
 ⟨h.len, fun i o hi e => h.keep i o (fun q => (hd i q).elim hi fun x => by have := (List.getElem?_eq_some_iff.mp e).1; lia) e⟩
theorem Kp.new (D : List Nat) (σ l : MH) : Kp D σ (σ ++ l) := ⟨by simp, fun i o _ e => by rw [List.getElem?_append_left (List.getElem?_eq_some_iff.mp e).1]; exact e⟩
theorem Kp.of {D : List Nat} {σ σ' : MH} {ch : List (Nat × MO)} (h : Upd σ σ' ch) (hd : ∀ p ∈ ch, p.1 ∈ D) : Kp D σ σ' :=
 ⟨h.len, fun i o hi e => h.old e (chg_none fun p hp q => hi (q ▸ hd p hp))⟩
section
variable {C : Cx} {n : Nat} {σ σ' : MH} {L : FL} {S : TS} {t : Nat} {k : MV}
theorem FlowAt.keep (W : FlowAt σ L S) (h : Kp [] σ σ') : FlowAt σ' L S := by
 obtain ⟨w1, ⟨as, a1, a2⟩, w0, ⟨bs, b1, b2⟩, ⟨e1, c1⟩, ⟨e2, d1⟩, w6, w7⟩ := W
 exact ⟨w1, ⟨as, h.get a1, a2⟩, fun as' q => w0 as' (by rw [h.get a1] at q; rw [a1]; exact q), ⟨bs, h.get b1, b2⟩, ⟨e1, h.get c1⟩, ⟨e2, h.get d1⟩, fun t ht => (w6 t ht).imp fun _ q => h.get q, w7⟩
theorem note_flow (H : L1 C) (W : FlowAt σ L S) (h : Takes S t k) :
  ∃ σ', N3 (CallEv C (n + 2) (.ref 107) [.inst 208 L.f, .loc t, k] σ .none σ') (FlowAt σ' L (S.put t (addM (S.T t) k))) (Kp (own L S) σ σ') := by
 obtain ⟨w1, ⟨as, a1, a2⟩, w0, ⟨bs, b1, b2⟩, ⟨e1, c1⟩, ⟨e2, d1⟩, w6, w7⟩ := id W
 obtain ⟨ep, ht⟩ := w6 t h.mem
 obtain ⟨σ', as', ep', h1, h2, h3⟩ := note_spec (n := n) H a1 ht (w1.fit h) (by have := w1.length h.mem; lia)
 have hft : ∀ x, x ∈ S.tabs → x ≠ L.f := fun x hx e => by obtain ⟨_, q⟩ := w6 x hx; rw [e, a1] at q; cases q
 have old : ∀ {i : Nat} {o : MO}, σ[i]? = some o → i ≠ L.f → i ≠ t → σ'[i]? = some o := fun {_ _} hi n1 n2 => h2.old hi (chg_none fun p hp q => by
  simp at hp; rcases hp with rfl | rfl
  ·exact n1 q.symm
  ·exact n2 q.symm)
 have hfs : σ'[L.f]? = some (.ns as') := by have := h2.get _ _ a1; simpa [chg] using this
 refine ⟨σ', h1, ⟨w1.put h, ⟨as', hfs, ?_⟩, fun as'' q a ha => ?_, ⟨bs, old b1 ?_ ?_, b2⟩, ⟨e1, old c1 ?_ ?_⟩, ⟨e2, old d1 ?_ ?_⟩, fun x hx => ?_, w7⟩, Kp.of h2 ?_⟩
 ·rw [h3 101 (by decide), h3 104 (by decide), h3 203 (by decide), h3 97 (by decide), h3 214 (by decide)]; exact a2
 ·rw [hfs] at q; cases q
  rw [h3 a (fun e => ha (by rw [e]; simp))]; exact w0 as a1 a ha
 ·exact w7.2.2.2
 ·intro e; rw [e, ht] at b1; cases b1
 ·intro e; rw [e, a1] at c1; cases c1
 ·intro e; exact w7.1 (e ▸ h.mem)
 ·intro e; rw [e, a1] at d1; cases d1
 ·intro e; exact w7.2.1 (e ▸ h.mem)
 ·by_cases e : x = t
  ·subst e
   refine ⟨ep', ?_⟩
   have := h2.get _ _ ht
   have hne := hft x hx
   simpa [chg, Ne.symm hne, TS.put] using this
  ·obtain ⟨q, hq⟩ := w6 x hx
   exact ⟨q, by have := old hq (hft x hx) e; simpa [TS.put, e] using this⟩
 ·intro p hp
  simp at hp
  rcases hp with rfl | rfl
  ·simp [own]
  ·simp [own, h.mem]
end
end Mine
namespace Mine
open PySem PySem.W PyProof.Rows PySem.Calls PySem.Spec PySem.SeqAt
noncomputable def heldT (S : TS) (r : Int) (v : MV) : Prop := ∃ l, (r, l) ∈ S.held ∧ v ∈ S.T l
noncomputable def insT (S : TS) (k : Nat) (v : MV) : Prop := ∃ l, (k, l) ∈ S.inside ∧ v ∈ S.T l
noncomputable def goneT (S : TS) (k : Nat) : Prop := MV.str k ∈ S.T S.gone
noncomputable def siteT (S : TS) (k : Nat) : Prop := MV.str k ∈ S.T S.sites
noncomputable def leakT (S : TS) (o : Int) : Prop := MV.int o ∈ S.T S.leaks
noncomputable def keptT (S : TS) (i o : Int) : Prop := MV.tup [.int i, .int o] ∈ S.T S.kept
inductive Next (S : TS) : MV → MV → Prop where
 | ins {k : Nat} {v : MV} : insT S k v → Next S (sv k) v
 | gone {k : Nat} : goneT S k → Next S (sv k) bv
 | kept {i o : Int} : keptT S i o → Next S (ov o) (if i = -1 then bv else ov i)
noncomputable def Loads (S : TS) (t v : MV) : Prop := Next S t v ∨ (v = t ∧ ∀ k, t ≠ sv k)
inductive Reach (S : TS) (P : MV → Prop) : MV → Prop where
 | base {v : MV} : P v → Reach S P v
 | step {u v : MV} : Reach S P u → Next S u v → Reach S P v
theorem next_ok {S : TS} (W : TOK S) {u v : MV} (h : Next S u v) : TokOk v := by
 cases h with
 | ins h => obtain ⟨l, h1, h2⟩ := h; exact W.toks l (.inr (List.mem_map.mpr ⟨_, h1, rfl⟩)) _ h2
 | gone => exact .beyond
 | @kept i o h =>
  obtain ⟨i', hi, o', ho, e⟩ := W.kep _ h
  simp at e
  obtain ⟨rfl, rfl⟩ := e
  split
  ·exact .beyond
  ·rename_i hne
   refine .outer ?_
   simp at hi ⊢
   rcases hi with h | h | h
   ·exact absurd h hne
   ·exact .inl h
   ·exact .inr h
theorem loads_ok {S : TS} (W : TOK S) {u v : MV} (hu : TokOk u) (h : Loads S u v) : TokOk v := by
 rcases h with h | ⟨rfl, _⟩
 ·exact next_ok W h
 ·exact hu
theorem reach_ok {S : TS} (W : TOK S) {P : MV → Prop} (hP : ∀ v, P v → TokOk v) {v : MV} (h : Reach S P v) : TokOk v := by
 cases h with
 | base h => exact hP _ h
 | step _ h => exact next_ok W h
theorem Loop.inv {C : Cx} {n : Nat} {t : Tg} {b : List IS} {dep : MH → Prop} (I : List MV → List (Nat × MV) → MH → Prop)
  (turn : ∀ x xs ρ σ, I (x :: xs) ρ σ → dep σ ∧ ∃ ρ₁ fl ρ₂ σ₂, bindT t x ρ = some ρ₁ ∧ Xs C n b ρ₁ σ fl ρ₂ σ₂ ∧ (fl = .next ∨ fl = .cont) ∧ I xs ρ₂ σ₂) (fin : ∀ ρ σ, I [] ρ σ → dep σ) :
  ∀ (xs : List MV) (ρ : List (Nat × MV)) (σ : MH), I xs ρ σ → E2 fun ρ' σ' => Loop C n t b dep xs ρ σ .next ρ' σ' ∧ I [] ρ' σ'
 | [], ρ, σ, h => ⟨ρ, σ, .nil (fin _ _ h), h⟩
 | x :: xs, ρ, σ, h => by
  obtain ⟨h1, ρ₁, fl, ρ₂, σ₂, h2, h3, h4, h5⟩ := turn x xs ρ σ h
  obtain ⟨ρ', σ', h6, h7⟩ := Loop.inv I turn fin xs ρ₂ σ₂ h5
  exact ⟨ρ', σ', .next h1 h2 h3 h4 h6, h7⟩
section
variable {C : Cx} {n : Nat} {σ σ' : MH} {L : FL} {S : TS} {t : Nat} {k : MV} {ρ : List (Nat × MV)}
theorem ev_inside (H : L1 C) (W : FlowAt σ L S) (h : alook ρ 199 = some (.inst 208 L.f)) : Ev C n (.attr (.var 199) 104) ρ σ (.loc L.li) σ := by
 obtain ⟨as, a1, a2, a3, a4, a5, a6⟩ := W.ns
 exact .attr (.var h) a1 a3 (cl_EscapeFlow H) (at_EscapeFlow_inside H)
theorem ev_held (H : L1 C) (W : FlowAt σ L S) (h : alook ρ 199 = some (.inst 208 L.f)) : Ev C n (.attr (.var 199) 101) ρ σ (.loc L.lh) σ := by
 obtain ⟨as, a1, a2, a3, a4, a5, a6⟩ := W.ns
 exact .attr (.var h) a1 a2 (cl_EscapeFlow H) (at_EscapeFlow_held H)
theorem ev_gone (H : L1 C) (W : FlowAt σ L S) (h : alook ρ 199 = some (.inst 208 L.f)) : Ev C n (.attr (.var 199) 97) ρ σ (.loc S.gone) σ := by
 obtain ⟨as, a1, a2, a3, a4, a5, a6⟩ := W.ns
 exact .attr (.var h) a1 a5 (cl_EscapeFlow H) (at_EscapeFlow_gone H)
theorem ev_sites (H : L1 C) (W : FlowAt σ L S) (h : alook ρ 199 = some (.inst 208 L.f)) : Ev C n (.attr (.var 199) 203) ρ σ (.loc S.sites) σ := by
 obtain ⟨as, a1, a2, a3, a4, a5, a6⟩ := W.ns
 exact .attr (.var h) a1 a4 (cl_EscapeFlow H) (at_EscapeFlow_sites H)
theorem ev_summary (H : L1 C) (W : FlowAt σ L S) {e : IE} (h : Ev C n e ρ σ (.inst 208 L.f) σ) : Ev C n (.attr e 214) ρ σ (.inst 54 L.lm) σ := by
 obtain ⟨as, a1, a2, a3, a4, a5, a6⟩ := W.ns
 exact .attr h a1 a6 (cl_EscapeFlow H) (at_EscapeFlow_summary H)
theorem ev_kept (H : L1 C) (W : FlowAt σ L S) {e : IE} (h : Ev C n e ρ σ (.inst 54 L.lm) σ) : Ev C n (.attr e 113) ρ σ (.loc S.kept) σ := by
 obtain ⟨as, a1, a2, a3, a4⟩ := W.sm
 exact .attr h a1 a3 (cl_Summary H) (at_Summary_kept H)
theorem ev_leaks (H : L1 C) (W : FlowAt σ L S) {e : IE} (h : Ev C n e ρ σ (.inst 54 L.lm) σ) : Ev C n (.attr e 121) ρ σ (.loc S.leaks) σ := by
 obtain ⟨as, a1, a2, a3, a4⟩ := W.sm
 exact .attr h a1 a2 (cl_Summary H) (at_Summary_leaks H)
theorem gone_tab (S : TS) : S.gone ∈ S.tabs := by simp [TS.tabs]
theorem kept_tab (S : TS) : S.kept ∈ S.tabs := by simp [TS.tabs]
theorem sites_tab (S : TS) : S.sites ∈ S.tabs := by simp [TS.tabs]
theorem leaks_tab (S : TS) : S.leaks ∈ S.tabs := by simp [TS.tabs]
theorem ev_item0 {x : MV} {xs : List MV} {e : IE} (h : Ev C n e ρ σ (.tup (x :: xs)) σ) : Ev C n (.sub e (.lit (.int 0))) ρ σ x σ :=
 .sub h .lit (by simp [kindOf]) (Op.itemT (q := 0) (by simp [seqIndex?]) rfl)
theorem ev_item1 {x y : MV} {xs : List MV} {e : IE} (h : Ev C n e ρ σ (.tup (x :: y :: xs)) σ) : Ev C n (.sub e (.lit (.int 1))) ρ σ y σ :=
 .sub h .lit (by simp [kindOf]) (Op.itemT (q := 1) (by simp [seqIndex?]; lia) rfl)
end
end Mine
namespace Mine
open PySem PySem.W PyProof.Rows PySem.Calls PySem.Spec PySem.SeqAt
structure Found (σ₀ σ : MH) (d : Nat) (fs : List MV) : Prop where
 keep : Kp [] σ₀ σ
 new : σ₀.length ≤ d
 here : ∃ ep, σ[d]? = some (.dict ep (tds fs))
 nodup : fs.Nodup
 ok : ∀ v ∈ fs, TokOk v
section
variable {C : Cx} {n : Nat} {σ₀ σ σ' : MH} {L : FL} {S : TS} {t d : Nat} {k v x : MV} {ρ : List (Nat × MV)} {fs : List MV} {e : IE}
theorem Found.length (F : Found σ₀ σ d fs) : fs.length ≤ 7 := Nat.le_trans (length_le_of_sub F.nodup fun v hv => (F.ok v hv).mem) (by decide)
theorem Found.fit (F : Found σ₀ σ d fs) (hv : TokOk v) : FitK fs v := .inr ⟨hv.flat, fun x hx => (F.ok x hx).flat⟩
theorem Found.step (F : Found σ₀ σ d fs) (h : Kp [] σ σ') : Found σ₀ σ' d fs :=
 ⟨F.keep.trans' h, F.new, F.here.imp fun _ q => h.get q, F.nodup, F.ok⟩
theorem Found.add (F : Found σ₀ σ d fs) (hρ : alook ρ 91 = some (.loc d)) (he : Ev C (n + 1) e ρ σ v σ) (hv : TokOk v) :
  ∃ σ', N3 (X1 C (n + 1) (.seti (.var 91) e (.lit (.bool true))) ρ σ .next ρ σ') (Found σ₀ σ' d (addM fs v)) (Kp [d] σ σ') := by
 obtain ⟨ep, hd⟩ := F.here
 obtain ⟨ep', h⟩ := setD_tds (C := C) (n := n) hd (F.fit hv) (by have := F.length; lia)
 refine ⟨_, X1.seti .lit (.var hρ) he h, ⟨F.keep.trans (Kp.of (D := [d]) (Upd.set ..) (by simp)) (fun a ha => .inr (by rw [List.mem_singleton.mp ha]; exact F.new)), F.new, ⟨ep', ?_⟩, addM_nodup F.nodup, fun x hx => ?_⟩, Kp.of (Upd.set ..) (by simp)⟩
 ·exact List.getElem?_set_self (List.getElem?_eq_some_iff.mp hd).1
 ·rcases mem_addM.mp hx with q | q
  ·exact F.ok x q
  ·rw [q]; exact hv
theorem pv_tok (h : TokOk v) : pv v 8 = true := by
 cases h with
 | site hk => simp at hk; rcases hk with rfl | rfl | rfl | rfl <;> decide
 | outer ho => simp at ho; rcases ho with rfl | rfl <;> decide
 | beyond => decide
theorem keptV (i : Int) : TokOk (if i = -1 then bv else ov i) ∨ ¬ (i ∈ [(-1 : Int), 0, 1]) := by
 by_cases h : i ∈ [(-1 : Int), 0, 1]
 ·left
  simp at h
  rcases h with rfl | rfl | rfl
  ·exact .beyond
  ·exact .outer (by simp)
  ·exact .outer (by simp)
 ·exact .inr h
noncomputable def kdep (i ep : Nat) (ks : List MV) (σ : MH) : Prop := ∃ es, σ[i]? = some (.dict ep es) ∧ es.map (·.1) = ks
theorem ItOp.keysT {i ep : Nat} {ks : List MV} (h : σ[i]? = some (.dict ep (tds ks))) : ItOp C n (.loc i) σ ks (kdep i ep ks) := by
 have := ItOp.keys (C := C) (n := n) h
 simp only [keys_tds] at this
 exact this
noncomputable abbrev keptBody : List IS := [.ite (.cmp .Eq (.var 221) (.tup [.lit (.str 162), .var 162])) [.seti (.var 91) (.ite (.cmp .Eq (.var 103) (.glob 20)) (.glob 14) (.tup [.lit (.str 162), .var 103])) (.lit (.bool true))] []]
noncomputable def KI (σ₀ σ : MH) (d : Nat) (fs : List MV) (x : MV) (S : TS) (ρ : List (Nat × MV)) (rem : List MV) (ρ' : List (Nat × MV)) (σ' : MH) : Prop :=
 ∃ done fs', S.T S.kept = done ++ rem ∧ Found σ₀ σ' d fs' ∧ Kp [d] σ σ' ∧ (∀ j, j ≠ 103 → j ≠ 162 → alook ρ' j = alook ρ j) ∧
   ∀ v, v ∈ fs' ↔ v ∈ fs ∨ ∃ i o, MV.tup [.int i, .int o] ∈ done ∧ x = ov o ∧ v = if i = -1 then bv else ov i
theorem kept_loop (H : L1 C) (W : FlowAt σ₀ L S) (F : Found σ₀ σ d fs) (h199 : alook ρ 199 = some (.inst 208 L.f)) (h91 : alook ρ 91 = some (.loc d)) (h221 : alook ρ 221 = some x) (hx : TokOk x) :
  E3 fun ρ' σ' fs' => N4 (X1 C (n + 1) (.for (.t [103, 162]) (.attr (.attr (.var 199) 214) 113) keptBody) ρ σ .next ρ' σ') (Found σ₀ σ' d fs') ((∀ j, j ≠ 103 → j ≠ 162 → alook ρ' j = alook ρ j)) (∀ v, v ∈ fs' ↔ v ∈ fs ∨ ∃ i o, keptT S i o ∧ x = ov o ∧ v = if i = -1 then bv else ov i) := by
 have Wσ := W.keep F.keep
 obtain ⟨ep, hk⟩ := Wσ.tab _ (kept_tab S)
 have hit : ItEv C (n + 1) (.attr (.attr (.var 199) 214) 113) ρ σ (S.T S.kept) (kdep S.kept ep (S.T S.kept)) σ :=
  ItEv.of (ev_kept (n := n + 1) H Wσ (ev_summary H Wσ (.var h199))) (ItOp.keysT hk)
 have hdk : S.kept ≠ d := fun q => by
  obtain ⟨_, q2⟩ := W.tab _ (kept_tab S)
  have := (List.getElem?_eq_some_iff.mp q2).1
  have := F.new; lia
 obtain ⟨ρ', σ', hl, hI⟩ : E2 fun ρ' σ' => Loop C (n + 1) (.t [103, 162]) keptBody (kdep S.kept ep (S.T S.kept)) (S.T S.kept) ρ σ .next ρ' σ' ∧ KI σ₀ σ d fs x S ρ [] ρ' σ' := by
  refine Loop.inv (KI σ₀ σ d fs x S ρ) ?_ ?_ (S.T S.kept) ρ σ ⟨[], fs, rfl, F, Kp.refl .., fun _ _ _ => rfl, by simp⟩
  ·rintro y rem ρ₁ σ₁ ⟨done, fs', e, F', K', hρ, hm⟩
   refine ⟨⟨_, K'.keep _ _ (by simpa using hdk) hk, keys_tds _⟩, ?_⟩
   have hy : KeptOk y := W.ok.kep y (by rw [e]; simp)
   obtain ⟨i, hi, o, ho, rfl⟩ := hy
   have hb : bindT (.t [103, 162]) (.tup [.int i, .int o]) ρ₁ = some (asets ρ₁ [103, 162] [.int i, .int o]) := rfl
   have l103 : alook (asets ρ₁ [103, 162] [.int i, .int o]) 103 = some (.int i) := by
    show alook (aset (aset ρ₁ 103 (.int i)) 162 (.int o)) 103 = _
    rw [alook_aset_ne _ _ (by decide), alook_aset_same]
   have l162 : alook (asets ρ₁ [103, 162] [.int i, .int o]) 162 = some (.int o) := alook_aset_same ..
   have lrest : ∀ j, j ≠ 103 → j ≠ 162 → alook (asets ρ₁ [103, 162] [.int i, .int o]) j = alook ρ j := fun j h1 h2 => by
    show alook (aset (aset ρ₁ 103 (.int i)) 162 (.int o)) j = _
    rw [alook_aset_ne _ _ h2, alook_aset_ne _ _ h1, hρ j h1 h2]
   have hov : TokOk (ov o) := .outer ho
   have htest : Tst C (n + 1) (.cmp .Eq (.var 221) (.tup [.lit (.str 162), .var 162])) (asets ρ₁ [103, 162] [.int i, .int o]) σ₁ (x.beq (ov o)) σ₁ :=
    Tst.cmp (.var (by rw [lrest 221 (by decide) (by decide)]; exact h221)) (.tup (.cons .lit (.cons (.var l162) .nil))) (Op.eq (pv_tok hx) (pv_tok hov))
   by_cases hxo : x = ov o
   ·rw [hxo, MV.beq_refl] at htest
    have hval : Ev C (n + 1) (.ite (.cmp .Eq (.var 103) (.glob 20)) (.glob 14) (.tup [.lit (.str 162), .var 103])) (asets ρ₁ [103, 162] [.int i, .int o]) σ₁ (if i = -1 then bv else ov i) σ₁ := by
     have ht : Tst C (n + 1) (.cmp .Eq (.var 103) (.glob 20)) (asets ρ₁ [103, 162] [.int i, .int o]) σ₁ ((MV.int i).beq (.int (-1))) σ₁ := Tst.cmp (.var l103) (.glob (gl_UNKNOWN H)) (Op.eq rfl rfl)
     by_cases h1 : i = -1
     ·subst h1
      rw [if_pos rfl]
      exact .iteT ht (.glob (gl_BEYOND H))
     ·rw [if_neg h1]
      have : (MV.int i).beq (.int (-1)) = false := MV.beq_false.mpr (by simpa using h1)
      rw [this] at ht
      exact .iteF ht (.tup (.cons .lit (.cons (.var l103) .nil)))
    have hvok : TokOk (if i = -1 then bv else ov i) := (keptV i).resolve_right (fun q => q hi)
    obtain ⟨σ₂, hX, F₂, K₂⟩ := F'.add (n := n) (by rw [lrest 91 (by decide) (by decide)]; exact h91) hval hvok
    refine ⟨_, _, _, σ₂, hb, .cons (.ite_t htest (.cons hX .nil)) .nil, .inl rfl, done ++ [.tup [.int i, .int o]], _, by rw [e]; simp, F₂, K'.trans' K₂, lrest, fun v => ?_⟩
    rw [mem_addM, hm]
    constructor
    ·rintro ((h | ⟨a, b, h1, h2, h3⟩) | h)
     ·exact .inl h
     ·exact .inr ⟨a, b, by simp [h1], h2, h3⟩
     ·exact .inr ⟨i, o, by simp, hxo, h⟩
    ·rintro (h | ⟨a, b, h1, h2, h3⟩)
     ·exact .inl (.inl h)
     ·rcases List.mem_append.mp h1 with h1 | h1
      ·exact .inl (.inr ⟨a, b, h1, h2, h3⟩)
      ·simp at h1
       obtain ⟨rfl, rfl⟩ := h1
       exact .inr h3
   ·have : x.beq (ov o) = false := MV.beq_false.mpr hxo
    rw [this] at htest
    refine ⟨_, _, _, σ₁, hb, .cons (.ite_f htest .nil) .nil, .inl rfl, done ++ [.tup [.int i, .int o]], fs', by rw [e]; simp, F', K', lrest, fun v => ?_⟩
    rw [hm]
    constructor
    ·rintro (h | ⟨a, b, h1, h2, h3⟩)
     ·exact .inl h
     ·exact .inr ⟨a, b, by simp [h1], h2, h3⟩
    ·rintro (h | ⟨a, b, h1, h2, h3⟩)
     ·exact .inl h
     ·rcases List.mem_append.mp h1 with h1 | h1
      ·exact .inr ⟨a, b, h1, h2, h3⟩
      ·simp at h1
       obtain ⟨rfl, rfl⟩ := h1
       exact absurd h2 hxo
  ·rintro ρ₁ σ₁ ⟨done, fs', e, F', K', hρ, hm⟩
   exact ⟨_, K'.keep _ _ (by simpa using hdk) hk, keys_tds _⟩
 ·obtain ⟨done, fs', e, F', _, hρ, hm⟩ := hI
  rw [List.append_nil] at e
  exact ⟨ρ', σ', fs', .for hit hl, F', hρ, fun v => by rw [hm, ← e]; rfl⟩
end
end Mine
namespace Mine
open PySem PySem.W PyProof.Rows PySem.Calls PySem.Spec PySem.SeqAt
theorem beq_str {i j : Nat} : (MV.str i).beq (.str j) = (i == j) := by
 by_cases h : i = j
 ·subst h; exact (MV.beq_refl _).trans (beq_self_eq_true i).symm
 ·exact (MV.beq_false.mpr fun q => h (MV.str.inj q)).trans (beq_eq_false_iff_ne.mpr h).symm
theorem beq_int {i j : Int} : (MV.int i).beq (.int j) = (i == j) := by
 by_cases h : i = j
 ·subst h; exact (MV.beq_refl _).trans (beq_self_eq_true i).symm
 ·exact (MV.beq_false.mpr fun q => h (MV.int.inj q)).trans (beq_eq_false_iff_ne.mpr h).symm
theorem dget_strs (k : Nat) : ∀ (l : List (Nat × Nat)), dget (l.map fun e => (MV.str e.1, MV.loc e.2)) (.str k) = (l.find? fun e => e.1 == k).map fun e => MV.loc e.2
 | [] => rfl
 | e :: l => by
  have ih := dget_strs k l
  unfold dget at ih ⊢
  rw [List.map_cons, List.find?_cons, List.find?_cons, beq_str]
  cases e.1 == k
  ·exact ih
  ·rfl
theorem dget_ints (k : Int) : ∀ (l : List (Int × Nat)), dget (l.map fun e => (MV.int e.1, MV.loc e.2)) (.int k) = (l.find? fun e => e.1 == k).map fun e => MV.loc e.2
 | [] => rfl
 | e :: l => by
  have ih := dget_ints k l
  unfold dget at ih ⊢
  rw [List.map_cons, List.find?_cons, List.find?_cons, beq_int]
  cases e.1 == k
  ·exact ih
  ·rfl
theorem find_key {α β : Type} [BEq α] [LawfulBEq α] {k : α} {v : β} : ∀ {l : List (α × β)}, (l.map (·.1)).Nodup → (k, v) ∈ l → l.find? (fun e => e.1 == k) = some (k, v)
 | [], _, h => by simp at h
 | e :: l, hn, h => by
  rw [List.map_cons, List.nodup_cons] at hn
  rw [List.find?_cons]
  rcases List.mem_cons.mp h with rfl | h
  ·simp
  ·have : (e.1 == k) = false := by
    rw [beq_eq_false_iff_ne]
    rintro rfl
    exact hn.1 (List.mem_map.mpr ⟨_, h, rfl⟩)
   rw [this]; exact find_key hn.2 h
theorem site_lt {k : Nat} (h : k ∈ [48, 53, 59, 76]) : k < tabN := by
 simp at h; rcases h with rfl | rfl | rfl | rfl <;> decide
section
variable {C : Cx} {n : Nat} {σ₀ σ σ' : MH} {L : FL} {S : TS} {t d k : Nat} {v x : MV} {ρ : List (Nat × MV)} {fs : List MV} {e : IE}
theorem ins_tab {l : Nat} (h : (k, l) ∈ S.inside) : l ∈ S.tabs := by
 simp only [TS.tabs, List.mem_append]
 exact .inr (List.mem_map.mpr ⟨_, h, rfl⟩)
theorem held_tab {r : Int} {l : Nat} (h : (r, l) ∈ S.held) : l ∈ S.tabs := by
 simp only [TS.tabs, List.mem_append]
 exact .inl (.inr (List.mem_map.mpr ⟨_, h, rfl⟩))
theorem inside_get (W : FlowAt σ L S) (hk : k ∈ [48, 53, 59, 76]) (he : Ev C (n + 1) e ρ σ (.str k) σ) {o : IE} (ho : Ev C (n + 1) o ρ σ (.loc L.li) σ) :
  E3 fun l ep ks => N5 (Ev C (n + 1) (.meth o 93 [e, .dict [] []]) ρ σ (.loc l) (σ ++ [.dict 0 []])) ((σ ++ [.dict 0 []])[l]? = some (.dict ep (tds ks))) (ks.Nodup) ((∀ v, v ∈ ks ↔ insT S k v)) ((l ∈ S.tabs ∨ σ.length ≤ l)) := by
 obtain ⟨ep, hd⟩ := W.inside
 have hd' : (σ ++ [.dict 0 []])[L.li]? = some (.dict ep (S.inside.map fun e => (.str e.1, .loc e.2))) := (Kp.new [] σ _).get hd
 have hfit : Fits (S.inside.map fun e => (MV.str e.1, MV.loc e.2)) (.str k) := .inl ⟨str_atom (site_lt hk), fun e he => by
  obtain ⟨q, hq, rfl⟩ := List.mem_map.mp he
  exact str_atom (site_lt (W.ok.sits q hq))⟩
 have hget := CallEv.get2 (C := C) (n := n) (w := .loc σ.length) hd' hfit
 rw [dget_strs] at hget
 have hmeth : ∀ {w : MV}, CallEv C (n + 1) (.builtin "dict.get") [.loc L.li, .str k, .loc σ.length] (σ ++ [.dict 0 []]) w (σ ++ [.dict 0 []]) → Ev C (n + 1) (.meth o 93 [e, .dict [] []]) ρ σ w (σ ++ [.dict 0 []]) := fun h =>
  Ev.methB ho (kind_dict hd) bm_get (ha := .cons he (.cons .dict0 .nil)) (hq := h)
 cases hf : S.inside.find? (fun e => e.1 == k) with
 | none =>
  rw [hf] at hget
  refine ⟨σ.length, 0, [], hmeth hget, get_new _ _, by simp, fun v => ⟨fun h => by simp at h, ?_⟩, .inr (Nat.le_refl _)⟩
  rintro ⟨l, h1, _⟩
  rw [find_key W.ok.keysI h1] at hf; cases hf
 | some p =>
  rw [hf] at hget
  have hp := List.mem_of_find?_eq_some hf
  have hpk : p.1 = k := by have := List.find?_some hf; simpa using this
  obtain ⟨p1, l⟩ := p
  simp only at hpk
  subst hpk
  obtain ⟨ep', hl⟩ := W.tab l (ins_tab hp)
  refine ⟨l, ep', S.T l, hmeth hget, (Kp.new [] σ _).get hl, W.ok.rows l (ins_tab hp), fun v => ⟨fun h => ⟨l, hp, h⟩, ?_⟩, .inl (ins_tab hp)⟩
  rintro ⟨l', h1, h2⟩
  have := find_key W.ok.keysI h1
  rw [hf] at this
  cases this; exact h2
theorem fill_loop {i : Nat} {it : IE} {dep : MH → Prop} {ks : List MV} {σ₁ : MH} (F : Found σ₀ σ₁ d fs) (h91 : alook ρ 91 = some (.loc d)) (hi : i ≠ 91) (hit : ItEv C (n + 1) it ρ σ ks dep σ₁) (hdep : ∀ σ', Kp [d] σ₁ σ' → dep σ') (hok : ∀ v ∈ ks, TokOk v) :
  E3 fun ρ' σ' fs' => N4 (X1 C (n + 1) (.for (.v i) it [.seti (.var 91) (.var i) (.lit (.bool true))]) ρ σ .next ρ' σ') (Found σ₀ σ' d fs') ((∀ j, j ≠ i → alook ρ' j = alook ρ j)) (∀ v, v ∈ fs' ↔ v ∈ fs ∨ v ∈ ks) := by
 obtain ⟨ρ', σ', hl, done, fs', e, F', _, hρ, hm⟩ : E2 fun ρ' σ' => Loop C (n + 1) (.v i) [.seti (.var 91) (.var i) (.lit (.bool true))] dep ks ρ σ₁ .next ρ' σ' ∧ E2 fun done fs' => N5 (ks = done ++ []) (Found σ₀ σ' d fs') (Kp [d] σ₁ σ') ((∀ j, j ≠ i → alook ρ' j = alook ρ j)) (∀ v, v ∈ fs' ↔ v ∈ fs ∨ v ∈ done) := by
  refine Loop.inv (fun rem ρ' σ' => E2 fun done fs' => N5 (ks = done ++ rem) (Found σ₀ σ' d fs') (Kp [d] σ₁ σ') ((∀ j, j ≠ i → alook ρ' j = alook ρ j)) (∀ v, v ∈ fs' ↔ v ∈ fs ∨ v ∈ done)) ?_ ?_ ks ρ σ₁ ⟨[], fs, rfl, F, Kp.refl .., fun _ _ => rfl, by simp⟩
  ·rintro y rem ρ₁ σ₂ ⟨done, fs', e, F', K', hρ, hm⟩
   refine ⟨hdep _ K', ?_⟩
   obtain ⟨σ₃, hX, F₃, K₃⟩ := F'.add (C := C) (n := n) (ρ := aset ρ₁ i y) (e := .var i) (by rw [alook_aset_ne _ _ (Ne.symm hi), hρ 91 (Ne.symm hi)]; exact h91) (.var (alook_aset_same ..)) (hok y (by rw [e]; simp))
   refine ⟨_, _, _, σ₃, rfl, .cons hX .nil, .inl rfl, done ++ [y], _, by rw [e]; simp, F₃, K'.trans' K₃, fun j hj => by rw [alook_aset_ne _ _ hj, hρ j hj], fun v => ?_⟩
   rw [mem_addM, hm]; simp [or_assoc]
  ·rintro ρ₁ σ₂ ⟨done, fs', e, F', K', hρ, hm⟩
   exact hdep _ K'
 rw [List.append_nil] at e
 exact ⟨ρ', σ', fs', .for hit hl, F', hρ, fun v => by rw [hm, ← e]⟩
end
end Mine
namespace Mine
open PySem PySem.W PyProof.Rows PySem.Calls PySem.Spec PySem.SeqAt
noncomputable abbrev loadedBody : List IS := [
  .ite (.cmp .NotEq (.sub (.var 221) (.lit (.int 0))) (.lit (.str 202))) [
   .seti (.var 91) (.var 221) (.lit (.bool true)),
   .for (.t [103, 162]) (.attr (.attr (.var 199) 214) 113) keptBody,
   .cont] [],
  .for (.v 103) (.meth (.attr (.var 199) 104) 93 [.sub (.var 221) (.lit (.int 1)), .dict [] []]) [
   .seti (.var 91) (.var 103) (.lit (.bool true))],
  .ite (.cmp .In (.sub (.var 221) (.lit (.int 1))) (.attr (.var 199) 97)) [
   .seti (.var 91) (.glob 14) (.lit (.bool true))] []]
section
variable {C : Cx} {n : Nat} {σ₀ σ σ' : MH} {L : FL} {S : TS} {t d k : Nat} {v x : MV} {ρ : List (Nat × MV)} {fs ts : List MV} {e : IE}
theorem sv_ne_ov {k : Nat} {o : Int} : ov o ≠ sv k := by simp [ov, sv]
theorem bv_ne_sv {k : Nat} : bv ≠ sv k := by simp [bv, sv]
theorem loaded_turn (H : L1 C) (W : FlowAt σ₀ L S) (F : Found σ₀ σ d fs) (h199 : alook ρ 199 = some (.inst 208 L.f)) (h91 : alook ρ 91 = some (.loc d)) (h221 : alook ρ 221 = some x) (hx : TokOk x) :
  E4 fun fl ρ' σ' fs' => N5 (Xs C (n + 1) loadedBody ρ σ fl ρ' σ') ((fl = .next ∨ fl = .cont)) (Found σ₀ σ' d fs') ((∀ j, j ≠ 103 → j ≠ 162 → alook ρ' j = alook ρ j)) (∀ v, v ∈ fs' ↔ v ∈ fs ∨ Loads S x v) := by
 have Wσ := W.keep F.keep
 have other : ∀ (h : MV) (r : List MV), x = .tup (h :: r) → pv h 8 = true → h.beq (.str 202) = false → (∀ k, x ≠ sv k) →
   E4 fun fl ρ' σ' fs' => N5 (Xs C (n + 1) loadedBody ρ σ fl ρ' σ') ((fl = .next ∨ fl = .cont)) (Found σ₀ σ' d fs') ((∀ j, j ≠ 103 → j ≠ 162 → alook ρ' j = alook ρ j)) (∀ v, v ∈ fs' ↔ v ∈ fs ∨ Loads S x v) := fun h r hxe hp hb hns => by
  have htest : Tst C (n + 1) (.cmp .NotEq (.sub (.var 221) (.lit (.int 0))) (.lit (.str 202))) ρ σ true σ := by
   have := Tst.cmp (C := C) (n := n + 1) (ρ := ρ) (σ := σ) (ev_item0 (x := h) (xs := r) (.var (by rw [← hxe]; exact h221))) (.lit (v := .str 202)) (Op.ne hp (by decide))
   rw [hb] at this; exact this
  obtain ⟨σ₁, hX₁, F₁, _⟩ := F.add (C := C) (n := n) h91 (.var h221) hx
  obtain ⟨ρ₂, σ₂, fs₂, hX₂, F₂, hρ₂, hm₂⟩ := kept_loop (n := n) H W F₁ h199 h91 h221 hx
  refine ⟨.cont, ρ₂, σ₂, fs₂, .out (.ite_t htest (.cons hX₁ (.cons hX₂ (.out .cont (by simp))))) (by simp), .inr rfl, F₂, hρ₂, fun v => ?_⟩
  rw [hm₂, mem_addM, or_assoc]
  refine or_congr_right ⟨?_, ?_⟩
  ·rintro (rfl | ⟨i, o, h1, h2, rfl⟩)
   ·exact .inr ⟨rfl, hns⟩
   ·rw [h2]; exact .inl (.kept h1)
  ·rintro (h1 | ⟨rfl, _⟩)
   ·cases h1 with
    | ins _ => exact absurd rfl (hns _)
    | gone _ => exact absurd rfl (hns _)
    | kept h1 => exact .inr ⟨_, _, h1, rfl, rfl⟩
   ·exact .inl rfl
 cases hx with
 | outer ho => exact other (.str 162) _ rfl (by decide) (by decide) fun k => sv_ne_ov
 | beyond => exact other (.str 54) _ rfl (by decide) (by decide) fun k => bv_ne_sv
 | @site k hk =>
  have hpk : pv (sv k) 8 = true := pv_tok (.site hk)
  have htest : Tst C (n + 1) (.cmp .NotEq (.sub (.var 221) (.lit (.int 0))) (.lit (.str 202))) ρ σ false σ := by
   have := Tst.cmp (C := C) (n := n + 1) (ρ := ρ) (σ := σ) (ev_item0 (x := .str 202) (xs := [.str k]) (.var h221)) (.lit (v := .str 202)) (Op.ne (by decide) (by decide))
   rw [MV.beq_refl] at this; exact this
  obtain ⟨l, ep, ks, g1, g2, g3, g4, g5⟩ := inside_get (C := C) (n := n) (ρ := ρ) (e := .sub (.var 221) (.lit (.int 1))) (o := .attr (.var 199) 104) Wσ hk (ev_item1 (.var h221)) (ev_inside H Wσ h199)
  have F₁ := F.step (Kp.new [] σ [.dict 0 []])
  have hld : l ≠ d := fun q => by
   rcases g5 with h | h
   ·obtain ⟨_, q2⟩ := W.tab _ h
    have := (List.getElem?_eq_some_iff.mp q2).1
    have := F.new; lia
   ·obtain ⟨ep', q2⟩ := F.here
    have := (List.getElem?_eq_some_iff.mp q2).1
    lia
  obtain ⟨ρ₂, σ₂, fs₂, hX₂, F₂, hρ₂, hm₂⟩ := fill_loop (n := n) (i := 103) (dep := kdep l ep ks) F₁ h91 (by decide) (ItEv.of g1 (ItOp.keysT g2)) (fun σ' K => ⟨_, K.keep _ _ (by simpa using hld) g2, keys_tds _⟩) (fun v hv => next_ok W.ok (.ins ((g4 v).mp hv)))
  have W₂ := W.keep F₂.keep
  obtain ⟨eg, hg⟩ := W₂.tab _ (gone_tab S)
  have h199' : alook ρ₂ 199 = some (.inst 208 L.f) := by rw [hρ₂ 199 (by decide)]; exact h199
  have h221' : alook ρ₂ 221 = some (sv k) := by rw [hρ₂ 221 (by decide)]; exact h221
  have h91' : alook ρ₂ 91 = some (.loc d) := by rw [hρ₂ 91 (by decide)]; exact h91
  have hfit : FitK (S.T S.gone) (.str k) := .inl ⟨str_atom (site_lt hk), fun x hx => (W.ok.gon x hx).atom⟩
  have hin : Tst C (n + 1) (.cmp .In (.sub (.var 221) (.lit (.int 1))) (.attr (.var 199) 97)) ρ₂ σ₂ (hasM (S.T S.gone) (.str k)) σ₂ :=
   Tst.cmp (ev_item1 (.var h221')) (ev_gone H W₂ h199') (in_tds hg hfit)
  have hloads : ∀ v, Loads S (sv k) v ↔ insT S k v ∨ (goneT S k ∧ v = bv) := fun v => by
   constructor
   ·rintro (h1 | ⟨_, h1⟩)
    ·generalize hu : sv k = u at h1
     cases h1 with
     | ins h1 => simp [sv] at hu; subst hu; exact .inl h1
     | gone h1 => simp [sv] at hu; subst hu; exact .inr ⟨h1, rfl⟩
     | kept _ => exact absurd hu.symm sv_ne_ov
    ·exact absurd rfl (h1 k)
   ·rintro (h1 | ⟨h1, rfl⟩)
    ·exact .inl (.ins h1)
    ·exact .inl (.gone h1)
  by_cases hgone : hasM (S.T S.gone) (.str k) = true
  ·rw [hgone] at hin
   obtain ⟨σ₃, hX₃, F₃, _⟩ := F₂.add (C := C) (n := n) h91' (.glob (gl_BEYOND H)) .beyond
   refine ⟨.next, ρ₂, σ₃, _, .cons (.ite_f htest .nil) (.cons hX₂ (.cons (.ite_t hin (.cons hX₃ .nil)) .nil)), .inl rfl, F₃, fun j h1 _ => hρ₂ j h1, fun v => ?_⟩
   rw [mem_addM, hm₂, hloads, g4, or_assoc]
   refine or_congr_right (or_congr_right ⟨fun h => ⟨hasM_iff.mp hgone, h⟩, fun h => h.2⟩)
  ·have hng : hasM (S.T S.gone) (.str k) = false := by simpa using hgone
   rw [hng] at hin
   refine ⟨.next, ρ₂, σ₂, _, .cons (.ite_f htest .nil) (.cons hX₂ (.cons (.ite_f hin .nil) .nil)), .inl rfl, F₂, fun j h1 _ => hρ₂ j h1, fun v => ?_⟩
   rw [hm₂, hloads, g4]
   refine or_congr_right ⟨.inl, ?_⟩
   rintro (h | ⟨h, _⟩)
   ·exact h
   ·exact absurd (hasM_iff.mpr h) hgone
noncomputable def LRow (σ : MH) (i : Nat) (ts : List MV) : Prop := σ[i]? = some (.list ts) ∧ ∀ v ∈ ts, TokOk v
theorem loaded_spec (H : L1 C) (W : FlowAt σ L S) (ht : LRow σ t ts) :
  E3 fun σ' k zs => N6 (CallEv C (n + 2) (.ref 100) [.inst 208 L.f, .loc t] σ (.loc k) σ') (Kp [] σ σ') (σ.length ≤ k) (LRow σ' k zs) (zs.Nodup) (∀ v, v ∈ zs ↔ ∃ u ∈ ts, Loads S u v) := by
 have F₀ : Found σ (σ ++ [.dict 0 []]) σ.length [] := ⟨Kp.new .., Nat.le_refl _, ⟨0, get_new _ _⟩, by simp, by simp⟩
 have ht0 : (σ ++ [.dict 0 []])[t]? = some (.list ts) := (Kp.new [] σ _).get ht.1
 let ρ₀ : List (Nat × MV) := [(199, .inst 208 L.f), (222, .loc t)]
 obtain ⟨ρ', σ', hl, done, fs, e, F, _, _, hm⟩ : E2 fun ρ' σ' => Loop C (n + 1) (.v 221) loadedBody (fun σ' => σ'[t]? = some (.list ts)) ts (aset ρ₀ 91 (.loc σ.length)) (σ ++ [.dict 0 []]) .next ρ' σ' ∧ E2 fun done fs => N5 (ts = done ++ []) (Found σ σ' σ.length fs) (alook ρ' 199 = some (.inst 208 L.f)) (alook ρ' 91 = some (.loc σ.length)) (∀ v, v ∈ fs ↔ ∃ u ∈ done, Loads S u v) := by
  refine Loop.inv (fun rem ρ' σ' => E2 fun done fs => N5 (ts = done ++ rem) (Found σ σ' σ.length fs) (alook ρ' 199 = some (.inst 208 L.f)) (alook ρ' 91 = some (.loc σ.length)) (∀ v, v ∈ fs ↔ ∃ u ∈ done, Loads S u v)) ?_ ?_ ts _ _ ⟨[], [], rfl, F₀, rfl, rfl, by simp⟩
  ·rintro y rem ρ₁ σ₁ ⟨done, fs, e, F, h1, h2, hm⟩
   refine ⟨F.keep.get ht.1, ?_⟩
   obtain ⟨fl, ρ₂, σ₂, fs₂, hX, hfl, F₂, hρ, hm₂⟩ := loaded_turn (n := n) (ρ := aset ρ₁ 221 y) (x := y) H W F (look_ne h1 (by decide)) (look_ne h2 (by decide)) (alook_aset_same ..) (ht.2 y (by rw [e]; simp))
   refine ⟨_, fl, ρ₂, σ₂, rfl, hX, hfl, done ++ [y], fs₂, by rw [e]; simp, F₂, by rw [hρ 199 (by decide) (by decide), alook_aset_ne _ _ (by decide)]; exact h1, by rw [hρ 91 (by decide) (by decide), alook_aset_ne _ _ (by decide)]; exact h2, fun v => ?_⟩
   rw [hm₂, hm]
   simp [or_and_right, exists_or]
  ·rintro ρ₁ σ₁ ⟨done, fs, e, F, h1, h2, hm⟩
   exact F.keep.get ht.1
 rw [List.append_nil] at e
 subst e
 obtain ⟨ep, hd⟩ := F.here
 have hlist : CallEv C (n + 1) (.type "list") [.loc σ.length] σ' (.loc σ'.length) (σ' ++ [.list fs]) := by
  have := CallEv.listD (C := C) (n := n + 1) hd
  rwa [keys_tds] at this
 refine ⟨σ' ++ [.list fs], σ'.length, fs, .fn (fn_EscapeFlow_loaded H) (.cons (.setv .dict0) (.cons (.for (.of (.var rfl) (.list ht0)) hl) (.out (.ret (.call (gl_list H) (.inl fun _ q => by cases q) (.cons (.var ?_) .nil) hlist)) (by simp)))) (.inl rfl), F.keep.trans' (Kp.new ..), F.keep.len, ⟨get_new _ _, F.ok⟩, F.nodup, hm⟩
 assumption
end
end Mine
namespace Mine
open PySem PySem.W PyProof.Rows PySem.Calls PySem.Spec PySem.SeqAt
section
variable {C : Cx} {n : Nat} {σ₀ σ σ' : MH} {L : FL} {S : TS} {t d w k : Nat} {v x : MV} {ρ : List (Nat × MV)} {fs ts ws : List MV} {e : IE}
theorem pvs_toks : ∀ {ws : List MV}, (∀ v ∈ ws, TokOk v) → pvs ws 8 = true
 | [], _ => by simp [pvs]
 | v :: ws, h => by simp only [pvs, Bool.and_eq_true]; exact ⟨pv_tok (h v (by simp)), pvs_toks fun x hx => h x (by simp [hx])⟩
theorem beqs_nil {ws : List MV} : MV.beqs ws [] = ws.isEmpty := by cases ws <;> rfl
theorem notEmpty (he : Ev C n e ρ σ (.loc w) σ) (hw : σ[w]? = some (.list ws)) (hp : pvs ws 8 = true) : Tst C n (.cmp .NotEq e (.list [])) ρ σ (!ws.isEmpty) (σ ++ [.list []]) := by
 have := Tst.cmp (C := C) (n := n) (ρ := ρ) (σ := σ) he (.list .nil) (Op.neL ((Kp.new [] σ _).get hw) (get_new _ _) hp (by simp [pvs]))
 rwa [beqs_nil] at this
noncomputable abbrev reachedBody : List IS := [
  .setv 221 (.meth (.var 232) 166 []),
  .ite (.cmp .NotIn (.var 221) (.var 91)) [
   .seti (.var 91) (.var 221) (.lit (.bool true)),
   .expr (.meth (.var 232) 85 [.meth (.var 199) 126 [.list [.var 221]]])] []]
structure RI (σ₀ : MH) (L : FL) (S : TS) (P : MV → Prop) (d w : Nat) (ρ : List (Nat × MV)) (σ : MH) (fs ws : List MV) : Prop where
 found : Found σ₀ σ d fs
 row : LRow σ w ws
 new : σ₀.length ≤ w
 self : alook ρ 199 = some (.inst 208 L.f)
 vd : alook ρ 91 = some (.loc d)
 vw : alook ρ 232 = some (.loc w)
 all : ∀ v, P v → v ∈ fs ∨ v ∈ ws
 sound : ∀ v, (v ∈ fs ∨ v ∈ ws) → Reach S P v
 closed : ∀ u v, u ∈ fs → Next S u v → v ∈ fs ∨ v ∈ ws
theorem reached_loop (H : L1 C) (W : FlowAt σ₀ L S) {P : MV → Prop} : ∀ (m : Nat) (ρ : List (Nat × MV)) (σ : MH) (fs ws : List MV), RI σ₀ L S P d w ρ σ fs ws → ws.length + 9 * (7 - fs.length) ≤ m → m ≤ 1000 →
  E4 fun j ρ' σ' fs' => WLoop C (n + 2) (.cmp .NotEq (.var 232) (.list [])) reachedBody j ρ σ .next ρ' σ' ∧ RI σ₀ L S P d w ρ' σ' fs' [] := by
 intro m
 induction m with
 | zero =>
  intro ρ σ fs ws I hm _
  have hw : ws = [] := by cases ws with
   | nil => rfl
   | cons _ _ => simp at hm
  subst hw
  have ht := notEmpty (C := C) (n := n + 2) (.var I.vw) I.row.1 (pvs_toks I.row.2)
  exact ⟨0, ρ, _, fs, .stop ht, { I with found := I.found.step (Kp.new ..), row := ⟨(Kp.new [] σ _).get I.row.1, I.row.2⟩ }⟩
 | succ m ih =>
  intro ρ σ fs ws I hm hm1
  have ht := notEmpty (C := C) (n := n + 2) (.var I.vw) I.row.1 (pvs_toks I.row.2)
  rcases List.eq_nil_or_concat ws with rfl | ⟨xs, y, hws⟩
  ·exact ⟨0, ρ, _, fs, .stop ht, { I with found := I.found.step (Kp.new ..), row := ⟨(Kp.new [] σ _).get I.row.1, I.row.2⟩ }⟩
  ·rw [List.concat_eq_append] at hws
   subst hws
   have ht' : Tst C (n + 2) (.cmp .NotEq (.var 232) (.list [])) ρ σ true (σ ++ [.list []]) := by
    have e : (xs ++ [y]).isEmpty = false := by simp
    rw [e] at ht; exact ht
   have hw1 : (σ ++ [MO.list []])[w]? = some (.list (xs ++ [y])) := (Kp.new [] σ _).get (by simpa using I.row.1)
   have hy : TokOk y := I.row.2 y (by simp)
   have hpop : Ev C (n + 2) (.meth (.var 232) 166 []) ρ (σ ++ [.list []]) y ((σ ++ [MO.list []]).set w (MO.list xs)) :=
    Ev.methB (.var I.vw) (kind_list hw1) bm_pop (ha := .nil) (hq := CallEv.pop hw1)
   have hlt : w < (σ ++ [MO.list []]).length := (List.getElem?_eq_some_iff.mp hw1).1
   have hdw : d ≠ w := fun q => by
    obtain ⟨_, q2⟩ := I.found.here
    rw [q, I.row.1] at q2; cases q2
   generalize hσ₂ : (σ ++ [MO.list []]).set w (MO.list xs) = σ₂ at hpop
   have hw2 : σ₂[w]? = some (.list xs) := by rw [← hσ₂]; exact List.getElem?_set_self hlt
   have K₂ : Kp [w] σ σ₂ := by rw [← hσ₂]; exact (Kp.new [w] σ _).trans' (Kp.of (Upd.set ..) (by simp))
   have fresh : ∀ {σ' : MH}, Kp [w] σ σ' → Kp [] σ₀ σ' := fun K => I.found.keep.trans K fun a ha => .inr (by rw [List.mem_singleton.mp ha]; exact I.new)
   have F₂ : Found σ₀ σ₂ d fs := ⟨fresh K₂, I.found.new, I.found.here.imp fun _ q => K₂.keep _ _ (by simpa using hdw) q, I.found.nodup, I.found.ok⟩
   let ρ₁ := aset ρ 221 y
   have a199 : alook ρ₁ 199 = some (.inst 208 L.f) := look_ne I.self (by decide)
   have a91 : alook ρ₁ 91 = some (.loc d) := look_ne I.vd (by decide)
   have a232 : alook ρ₁ 232 = some (.loc w) := look_ne I.vw (by decide)
   have a221 : alook ρ₁ 221 = some y := alook_aset_same ..
   obtain ⟨ep, hd⟩ := F₂.here
   have hnot : Tst C (n + 2) (.cmp .NotIn (.var 221) (.var 91)) ρ₁ σ₂ (!hasM fs y) σ₂ := Tst.cmp (.var a221) (.var a91) (notIn_tds hd (F₂.fit hy))
   by_cases hh : hasM fs y = true
   ·-- already found
    rw [hh] at hnot
    have hyf := hasM_iff.mp hh
    have I₂ : RI σ₀ L S P d w ρ₁ σ₂ fs xs := ⟨F₂, ⟨hw2, fun v hv => I.row.2 v (by simp [hv])⟩, I.new, a199, a91, a232, fun v hv => by
      rcases I.all v hv with h | h
      ·exact .inl h
      ·simp at h; rcases h with h | h
       ·exact .inr h
       ·exact .inl (h ▸ hyf), fun v hv => I.sound v (by rcases hv with h | h <;> simp [h]), fun u v hu hn => by
      rcases I.closed u v hu hn with h | h
      ·exact .inl h
      ·simp at h; rcases h with h | h
       ·exact .inr h
       ·exact .inl (h ▸ hyf)⟩
    obtain ⟨j, ρ', σ', fs', hW, hR⟩ := ih ρ₁ σ₂ fs xs I₂ (by simp at hm; lia) (by lia)
    exact ⟨j + 1, ρ', σ', fs', .turn ht' (.cons (.setv hpop) (.cons (.ite_f hnot .nil) .nil)) (.inl rfl) hW, hR⟩
   ·have hh' : hasM fs y = false := by simpa using hh
    have hyf : y ∉ fs := fun q => hh (hasM_iff.mpr q)
    rw [hh'] at hnot
    obtain ⟨σ₃, hX₃, F₃, K₃⟩ := F₂.add (C := C) (n := n + 1) a91 (.var a221) hy
    have hadd : addM fs y = fs ++ [y] := by unfold addM; rw [if_neg hh]
    rw [hadd] at F₃
    have W₃ := W.keep F₃.keep
    have hw3 : σ₃[w]? = some (.list xs) := K₃.keep _ _ (by simpa using Ne.symm hdw) hw2
    have W₄ : FlowAt (σ₃ ++ [.list [y]]) L S := W₃.keep (Kp.new ..)
    obtain ⟨σ₅, z, zs, hc, K₅, hz, hrow, hzn, hzm⟩ := loaded_spec (n := n) (t := σ₃.length) (ts := [y]) H W₄ ⟨get_new _ _, by simpa using hy⟩
    have hload : Ev C (n + 2) (.meth (.var 199) 126 [.list [.var 221]]) ρ₁ σ₃ (.loc z) σ₅ := by
     obtain ⟨as, s1, s2⟩ := W₃.ns
     exact Ev.meth (.var a199) s1 (W₃.only as s1 _ (by decide)) (cl_EscapeFlow H) (me_EscapeFlow_loaded H) (.cons (.list (.cons (.var a221) .nil)) .nil) hc
    have hw5 : σ₅[w]? = some (.list xs) := K₅.get ((Kp.new [] σ₃ _).get hw3)
    have hzl : zs.length ≤ 7 := Nat.le_trans (length_le_of_sub hzn fun v hv => (hrow.2 v hv).mem) (by decide)
    have hfl := F₃.length
    simp only [List.length_append, List.length_cons, List.length_nil] at hm hfl
    have hext : Ev C (n + 2) (.meth (.var 232) 85 [.meth (.var 199) 126 [.list [.var 221]]]) ρ₁ σ₃ .none (σ₅.set w (.list (xs ++ zs))) :=
     Ev.methB (.var a232) (kind_list hw3) bm_extend (ha := .cons hload .nil) (hq := CallEv.extend hw5 hrow.1 (by rw [sizeLine_eq]; lia))
    have K₃₅ : Kp [] σ₃ σ₅ := (Kp.new [] σ₃ _).trans' K₅
    have F₅ := F₃.step K₃₅
    have K₆ : Kp [w] σ₅ (σ₅.set w (.list (xs ++ zs))) := Kp.of (Upd.set ..) (by simp)
    have F₆ : Found σ₀ (σ₅.set w (.list (xs ++ zs))) d (fs ++ [y]) := ⟨F₅.keep.trans K₆ fun a ha => .inr (by rw [List.mem_singleton.mp ha]; exact I.new), F₅.new, F₅.here.imp fun _ q => K₆.keep _ _ (by simpa using hdw) q, F₅.nodup, F₅.ok⟩
    have I₆ : RI σ₀ L S P d w ρ₁ (σ₅.set w (.list (xs ++ zs))) (fs ++ [y]) (xs ++ zs) := ⟨F₆, ⟨List.getElem?_set_self (List.getElem?_eq_some_iff.mp hw5).1, fun v hv => by
      rcases List.mem_append.mp hv with h | h
      ·exact I.row.2 v (by simp [h])
      ·exact hrow.2 v h⟩, I.new, a199, a91, a232, fun v hv => by
      rcases I.all v hv with h | h
      ·exact .inl (by simp [h])
      ·rcases List.mem_append.mp h with h | h
       ·exact .inr (by simp [h])
       ·exact .inl (by simp at h; simp [h]), fun v hv => by
      have hyr : Reach S P y := I.sound y (.inr (by simp))
      rcases hv with h | h
      ·rcases List.mem_append.mp h with h | h
       ·exact I.sound v (.inl h)
       ·simp at h; rw [h]; exact hyr
      ·rcases List.mem_append.mp h with h | h
       ·exact I.sound v (.inr (by simp [h]))
       ·obtain ⟨u, hu, hl⟩ := (hzm v).mp h
        simp at hu; subst hu
        rcases hl with hl | ⟨rfl, _⟩
        ·exact .step hyr hl
        ·exact hyr, fun u v hu hn => by
      rcases List.mem_append.mp hu with h | h
      ·rcases I.closed u v h hn with h | h
       ·exact .inl (by simp [h])
       ·rcases List.mem_append.mp h with h | h
        ·exact .inr (by simp [h])
        ·exact .inl (by simp at h; simp [h])
      ·simp at h; subst h
       exact .inr (List.mem_append_right _ ((hzm v).mpr ⟨u, by simp, .inl hn⟩))⟩
    obtain ⟨j, ρ', σ', fs', hW, hR⟩ := ih ρ₁ _ (fs ++ [y]) (xs ++ zs) I₆ (by simp only [List.length_append, List.length_cons, List.length_nil]; lia) (by lia)
    exact ⟨j + 1, ρ', σ', fs', .turn ht' (.cons (.setv hpop) (.cons (.ite_t hnot (.cons hX₃ (.cons (.expr hext) .nil))) .nil)) (.inl rfl) hW, hR⟩
theorem reached_spec (H : L1 C) (W : FlowAt σ L S) (ht : LRow σ t ts) (hlen : ts.length ≤ 100) :
  E3 fun σ' k zs => N6 (CallEv C (n + 3) (.ref 93) [.inst 208 L.f, .loc t] σ (.loc k) σ') (Kp [] σ σ') (σ.length ≤ k) (LRow σ' k zs) (zs.Nodup) (∀ v, v ∈ zs ↔ Reach S (· ∈ ts) v) := by
 have ht0 : (σ ++ [MO.dict 0 []])[t]? = some (.list ts) := (Kp.new [] σ _).get ht.1
 have hl0 : CallEv C (n + 2) (.type "list") [.loc t] (σ ++ [.dict 0 []]) (.loc (σ ++ [MO.dict 0 []]).length) ((σ ++ [.dict 0 []]) ++ [.list ts]) := CallEv.listL ht0
 let ρ₀ : List (Nat × MV) := asets [(199, .inst 208 L.f), (222, .loc t)] [91, 232] [.loc σ.length, .loc (σ ++ [MO.dict 0 []]).length]
 have I₀ : RI σ L S (· ∈ ts) σ.length (σ ++ [MO.dict 0 []]).length ρ₀ ((σ ++ [.dict 0 []]) ++ [.list ts]) [] ts := ⟨⟨(Kp.new [] σ _).trans' (Kp.new ..), Nat.le_refl _, ⟨0, (Kp.new [] _ _).get (get_new _ _)⟩, by simp, by simp⟩,
  ⟨get_new _ _, ht.2⟩, by simp, rfl, rfl, rfl, fun v hv => .inr hv, fun v hv => by
   rcases hv with h | h
   ·simp at h
   ·exact .base h, fun u v hu _ => by simp at hu⟩
 obtain ⟨j, ρ', σ', fs, hW, R⟩ := reached_loop (n := n) H W _ ρ₀ _ [] ts I₀ (Nat.le_refl _) (by simp; lia)
 obtain ⟨ep, hd⟩ := R.found.here
 have hlist : CallEv C (n + 2) (.type "list") [.loc σ.length] σ' (.loc σ'.length) (σ' ++ [.list fs]) := by
  have := CallEv.listD (C := C) (n := n + 2) hd
  rwa [keys_tds] at this
 refine ⟨σ' ++ [.list fs], σ'.length, fs, .fn (fn_EscapeFlow_reached H) (.cons (.sett (.tup (.cons .dict0 (.cons (.call (gl_list H) (.inl fun _ q => by cases q) (.cons (.var rfl) .nil) hl0) .nil)))) (.cons (.while hW) (.out (.ret (.call (gl_list H) (.inl fun _ q => by cases q) (.cons (.var R.vd) .nil) hlist)) (by simp)))) (.inl rfl),
  R.found.keep.trans' (Kp.new ..), R.found.keep.len, ⟨get_new _ _, R.found.ok⟩, R.found.nodup, fun v => ⟨fun h => R.sound v (.inl h), fun h => ?_⟩⟩
 induction h with
 | base h => exact (R.all _ h).resolve_right (by simp)
 | step _ hn ih => exact (R.closed _ _ ih hn).resolve_right (by simp)
end
end Mine
namespace Mine
open PySem PySem.W PyProof.Rows PySem.Calls PySem.Spec PySem.SeqAt
structure Same (S S' : TS) : Prop where
 held : S'.held = S.held
 inside : S'.inside = S.inside
 sites : S'.sites = S.sites
 gone : S'.gone = S.gone
 leaks : S'.leaks = S.leaks
 kept : S'.kept = S.kept
 pre : ∀ x, S.T x <+: S'.T x
theorem Same.refl (S : TS) : Same S S := ⟨rfl, rfl, rfl, rfl, rfl, rfl, fun _ => List.prefix_refl _⟩
theorem Same.trans {S S₁ S₂ : TS} (h : Same S S₁) (h' : Same S₁ S₂) : Same S S₂ :=
 ⟨h'.held.trans h.held, h'.inside.trans h.inside, h'.sites.trans h.sites, h'.gone.trans h.gone, h'.leaks.trans h.leaks, h'.kept.trans h.kept, fun x => (h.pre x).trans (h'.pre x)⟩
theorem Same.put (S : TS) (t : Nat) (k : MV) : Same S (S.put t (addM (S.T t) k)) := ⟨rfl, rfl, rfl, rfl, rfl, rfl, fun x => by
 by_cases e : x = t
 ·subst e; simp [TS.put]; exact addM_prefix
 ·simp [TS.put, e]⟩
theorem Same.tabs {S S' : TS} (h : Same S S') : S'.tabs = S.tabs := by simp [TS.tabs, h.held, h.inside, h.sites, h.gone, h.leaks, h.kept]
theorem Same.own {S S' : TS} {L : FL} (h : Same S S') : own L S' = own L S := by simp [Mine.own, h.tabs]
theorem put_T {S : TS} {t x : Nat} {k v : MV} : v ∈ (S.put t (addM (S.T t) k)).T x ↔ v ∈ S.T x ∨ (x = t ∧ v = k) := by
 by_cases e : x = t
 ·subst e; simp [TS.put, mem_addM]
 ·simp [TS.put, e]
section
variable {C : Cx} {n : Nat} {σ₀ σ σ' : MH} {L : FL} {S : TS} {t d w k : Nat} {v x : MV} {ρ : List (Nat × MV)} {fs ts ws : List MV} {e : IE}
theorem FlowAt.list_off (W : FlowAt σ L S) {xs : List MV} (h : σ[t]? = some (.list xs)) : t ∉ own L S := by
 simp only [own, List.mem_cons, not_or]
 obtain ⟨as, a1, _⟩ := W.ns
 obtain ⟨_, c1⟩ := W.held
 obtain ⟨_, d1⟩ := W.inside
 refine ⟨fun q => ?_, fun q => ?_, fun q => ?_, fun q => ?_⟩
 ·rw [q, a1] at h; cases h
 ·rw [q, c1] at h; cases h
 ·rw [q, d1] at h; cases h
 ·obtain ⟨_, q2⟩ := W.tab t q
  rw [q2] at h; cases h
theorem ev_meth (H : L1 C) (W : FlowAt σ L S) {a : Nat} {f : Addr} {args : List IE} {vs : List MV} {σ₁ σ₂ : MH} (he : alook ρ 199 = some (.inst 208 L.f)) (ha : a ∉ [71, 213, 101, 104, 203, 97, 214, 108]) (hm : methB C.K 208 a f = true)
  (hargs : EvL C n args ρ σ vs σ₁) (hc : CallEv C n (.ref f) (.inst 208 L.f :: vs) σ₁ v σ₂) : Ev C n (.meth (.var 199) a args) ρ σ v σ₂ := by
 obtain ⟨as, s1, s2⟩ := W.ns
 exact Ev.meth (.var he) s1 (W.only as s1 a ha) (cl_EscapeFlow H) hm hargs hc
structure Leaked (S S' : TS) (P : MV → Prop) : Prop where
 same : Same S S'
 gone : ∀ k, goneT S' k ↔ goneT S k ∨ P (sv k)
 leak : ∀ o, leakT S' o ↔ leakT S o ∨ P (ov o)
 rest : ∀ x, x ≠ S.gone → x ≠ S.leaks → S'.T x = S.T x
theorem sv_inj {a b : Nat} (h : sv a = sv b) : a = b := by simpa [sv] using h
theorem ov_inj {a b : Int} (h : ov a = ov b) : a = b := by simpa [ov] using h
noncomputable abbrev leakBody : List IS := [
  .ite (.cmp .Eq (.sub (.var 221) (.lit (.int 0))) (.lit (.str 202))) [
   .expr (.meth (.var 199) 152 [.attr (.var 199) 97, .sub (.var 221) (.lit (.int 1))])] [
   .ite (.cmp .Eq (.sub (.var 221) (.lit (.int 0))) (.lit (.str 162))) [
    .expr (.meth (.var 199) 152 [.attr (.attr (.var 199) 214) 121, .sub (.var 221) (.lit (.int 1))])] []]]
theorem ev_head {h : MV} {r : List MV} {i : Nat} (hv : alook ρ 221 = some (.tup (h :: r))) (hp : pv h 8 = true) (hi : i < tabN) : Tst C n (.cmp .Eq (.sub (.var 221) (.lit (.int 0))) (.lit (.str i))) ρ σ (h.beq (.str i)) σ :=
 Tst.cmp (ev_item0 (.var hv)) .lit (Op.eq hp (by simp [pv, Nat.blt]; lia))
theorem leak_turn (H : L1 C) (W : FlowAt σ L S) (h199 : alook ρ 199 = some (.inst 208 L.f)) (h221 : alook ρ 221 = some x) (hx : TokOk x) :
  E2 fun σ' S' => N4 (Xs C (n + 2) leakBody ρ σ .next ρ σ') (FlowAt σ' L S') (Kp (own L S) σ σ') (Leaked S S' (· = x)) := by
 obtain ⟨p1, p2, p3, p4, p5, p6, p7⟩ := tab_apart W.ok
 cases hx with
 | @site k hk =>
  obtain ⟨σ', hc, W', K⟩ := note_flow (n := n) (t := S.gone) (k := .str k) H W (.inr (.inr (.inl ⟨rfl, k, hk, rfl⟩)))
  refine ⟨σ', _, .cons (.ite_t (ev_head (h := .str 202) (r := [.str k]) h221 (by decide) (by decide)) (.cons (.expr (ev_meth H W h199 (by decide) (me_EscapeFlow_note H) (.cons (ev_gone H W h199) (.cons (ev_item1 (.var h221)) .nil)) hc)) .nil)) .nil, W', K, Same.put .., fun k' => ?_, fun o => ?_, fun y h1 h2 => by simp [TS.put, h1]⟩
  ·show MV.str k' ∈ (S.put S.gone _).T S.gone ↔ _
   rw [put_T]
   simp [goneT, sv]
  ·show MV.int o ∈ (S.put S.gone _).T S.leaks ↔ _
   rw [put_T]
   simp [leakT, Ne.symm p4, ov, sv]
 | @outer o ho =>
  obtain ⟨σ', hc, W', K⟩ := note_flow (n := n) (t := S.leaks) (k := .int o) H W (.inr (.inr (.inr (.inl ⟨rfl, o, ho, rfl⟩))))
  refine ⟨σ', _, .cons (.ite_f (ev_head (h := .str 162) (r := [.int o]) h221 (by decide) (by decide)) (.cons (.ite_t (ev_head (h := .str 162) (r := [.int o]) h221 (by decide) (by decide))
   (.cons (.expr (ev_meth H W h199 (by decide) (me_EscapeFlow_note H) (.cons (ev_leaks H W (ev_summary H W (.var h199))) (.cons (ev_item1 (.var h221)) .nil)) hc)) .nil)) .nil)) .nil, W', K, Same.put .., fun k' => ?_, fun o' => ?_, fun y h1 h2 => by simp [TS.put, h2]⟩
  ·show MV.str k' ∈ (S.put S.leaks _).T S.gone ↔ _
   rw [put_T]
   simp [goneT, p4, ov, sv]
  ·show MV.int o' ∈ (S.put S.leaks _).T S.leaks ↔ _
   rw [put_T]
   simp [leakT, ov]
 | beyond =>
  refine ⟨σ, S, .cons (.ite_f (ev_head (h := .str 54) (r := []) h221 (by decide) (by decide)) (.cons (.ite_f (ev_head (h := .str 54) (r := []) h221 (by decide) (by decide)) .nil) .nil)) .nil, W, Kp.refl .., Same.refl S, fun k => ?_, fun o => ?_, fun _ _ _ => rfl⟩
  ·simp [sv, bv]
  ·simp [ov, bv]
theorem Leaked.trans {S S₁ S₂ : TS} {P Q R : MV → Prop} (h : Leaked S S₁ P) (h' : Leaked S₁ S₂ Q) (hr : ∀ v, R v ↔ P v ∨ Q v) : Leaked S S₂ R :=
 ⟨h.same.trans h'.same, fun k => by rw [h'.gone, h.gone, hr, or_assoc], fun o => by rw [h'.leak, h.leak, hr, or_assoc], fun x h1 h2 => by
  rw [h'.rest x (by rw [h.same.gone]; exact h1) (by rw [h.same.leaks]; exact h2), h.rest x h1 h2]⟩
theorem leak_spec (H : L1 C) (W : FlowAt σ L S) (ht : LRow σ t ts) (hlen : ts.length ≤ 100) :
  E2 fun σ' S' => N4 (CallEv C (n + 4) (.ref 128) [.inst 208 L.f, .loc t] σ .none σ') (FlowAt σ' L S') (Kp (own L S) σ σ') (Leaked S S' (Reach S (· ∈ ts))) := by
 obtain ⟨σ₁, z, zs, hr, K₁, hz, hrow, hzn, hzm⟩ := reached_spec (n := n) H W ht hlen
 have W₁ := W.keep K₁
 let ρ₀ : List (Nat × MV) := [(199, .inst 208 L.f), (222, .loc t)]
 have hit : ItEv C (n + 3) (.meth (.var 199) 172 [.var 222]) ρ₀ σ zs (fun σ' => σ'[z]? = some (.list zs)) σ₁ :=
  .of (ev_meth H W rfl (by decide) (me_EscapeFlow_reached H) (.cons (.var rfl) .nil) hr) (.list hrow.1)
 have hzo := W₁.list_off hrow.1
 obtain ⟨ρ', σ', hl, done, S', e, W', K', hL, _⟩ : E2 fun ρ' σ' => Loop C (n + 3) (.v 221) leakBody (fun σ' => σ'[z]? = some (.list zs)) zs ρ₀ σ₁ .next ρ' σ' ∧ E2 fun done S' => N5 (zs = done ++ []) (FlowAt σ' L S') (Kp (own L S) σ₁ σ') (Leaked S S' (· ∈ done)) (alook ρ' 199 = some (.inst 208 L.f)) := by
  refine Loop.inv (fun rem ρ' σ' => E2 fun done S' => N5 (zs = done ++ rem) (FlowAt σ' L S') (Kp (own L S) σ₁ σ') (Leaked S S' (· ∈ done)) (alook ρ' 199 = some (.inst 208 L.f))) ?_ ?_ zs ρ₀ σ₁ ⟨[], S, rfl, W₁, Kp.refl .., ⟨Same.refl S, by simp, by simp, fun _ _ _ => rfl⟩, rfl⟩
  ·rintro y rem ρ₁ σ₂ ⟨done, S₁, e, W₂, K₂, hL, h1⟩
   refine ⟨K₂.keep _ _ hzo hrow.1, ?_⟩
   obtain ⟨σ₃, S₃, hX, W₃, K₃, hL₃⟩ := leak_turn (n := n + 1) (ρ := aset ρ₁ 221 y) H W₂ (look_ne h1 (by decide)) (alook_aset_same ..) (hrow.2 y (by rw [e]; simp))
   rw [hL.same.own] at K₃
   exact ⟨_, .next, _, σ₃, rfl, hX, .inl rfl, done ++ [y], S₃, by rw [e]; simp, W₃, K₂.trans' K₃, hL.trans hL₃ fun v => by simp, look_ne h1 (by decide)⟩
  ·rintro ρ₁ σ₂ ⟨done, S₁, e, W₂, K₂, hL, h1⟩
   exact K₂.keep _ _ hzo hrow.1
 rw [List.append_nil] at e
 subst e
 exact ⟨σ', S', .fn (fn_EscapeFlow_leak H) (.cons (.for hit hl) .nil) (.inr ⟨rfl, rfl⟩), W', (K₁.up).trans' K', hL.same, fun k => by rw [hL.gone, hzm], fun o => by rw [hL.leak, hzm], hL.rest⟩
end
end Mine
namespace Mine
open PySem PySem.W PyProof.Rows PySem.Calls PySem.Spec PySem.SeqAt
structure Sub (S Z : TS) : Prop where
 held : ∀ r v, heldT S r v → heldT Z r v
 ins : ∀ k v, insT S k v → insT Z k v
 gone : ∀ k, goneT S k → goneT Z k
 site : ∀ k, siteT S k → siteT Z k
 leak : ∀ o, leakT S o → leakT Z o
 kept : ∀ i o, keptT S i o → keptT Z i o
theorem Sub.refl (S : TS) : Sub S S := ⟨fun _ _ h => h, fun _ _ h => h, fun _ h => h, fun _ h => h, fun _ h => h, fun _ _ h => h⟩
theorem Sub.trans {S Y Z : TS} (h : Sub S Y) (h' : Sub Y Z) : Sub S Z :=
 ⟨fun r v q => h'.held r v (h.held r v q), fun r v q => h'.ins r v (h.ins r v q), fun r q => h'.gone r (h.gone r q), fun r q => h'.site r (h.site r q), fun r q => h'.leak r (h.leak r q), fun r v q => h'.kept r v (h.kept r v q)⟩
theorem Next.mono {S Z : TS} (h : Sub S Z) {u v : MV} (q : Next S u v) : Next Z u v := by
 cases q with
 | ins q => exact .ins (h.ins _ _ q)
 | gone q => exact .gone (h.gone _ q)
 | kept q => exact .kept (h.kept _ _ q)
theorem Reach.mono {S Z : TS} (h : Sub S Z) {P Q : MV → Prop} (hp : ∀ v, P v → Q v) {v : MV} (q : Reach S P v) : Reach Z Q v := by
 induction q with
 | base q => exact .base (hp _ q)
 | step _ n ih => exact .step ih (n.mono h)
theorem Reach.trans {S : TS} {P : MV → Prop} {u v : MV} (h : Reach S P u) (q : Reach S (· = u) v) : Reach S P v := by
 induction q with
 | base q => subst q; exact h
 | step _ n ih => exact .step ih n
theorem Same.sub {S S' : TS} (h : Same S S') : Sub S S' := by
 obtain ⟨h1, h2, h3, h4, h5, h6, h7⟩ := h
 refine ⟨fun r v ⟨l, a, b⟩ => ⟨l, h1 ▸ a, (h7 l).subset b⟩, fun r v ⟨l, a, b⟩ => ⟨l, h2 ▸ a, (h7 l).subset b⟩, fun k q => ?_, fun k q => ?_, fun k q => ?_, fun i o q => ?_⟩
 ·show _ ∈ S'.T S'.gone; rw [h4]; exact (h7 _).subset q
 ·show _ ∈ S'.T S'.sites; rw [h3]; exact (h7 _).subset q
 ·show _ ∈ S'.T S'.leaks; rw [h5]; exact (h7 _).subset q
 ·show _ ∈ S'.T S'.kept; rw [h6]; exact (h7 _).subset q
noncomputable def Out (S Z : TS) (P : MV → Prop) : Prop := ∀ v, Reach S P v → (∀ k, v = sv k → goneT Z k) ∧ ∀ o, v = ov o → leakT Z o
noncomputable def code : MV → Int
 | .tup [.str 162, .int o] => o
 | _ => -1
theorem code_ov (o : Int) : code (ov o) = o := rfl
theorem code_sv (k : Nat) : code (sv k) = -1 := by unfold code sv; split <;> simp_all
theorem code_bv : code bv = -1 := rfl
noncomputable def Kept (S Z : TS) (P : MV → Prop) (o : Int) : Prop := ∀ v, Reach S P v → (∀ k, v = sv k → Out S Z (· = sv k)) ∧ keptT Z (code v) o
noncomputable def GInv (S : TS) : Prop := ∀ k k', goneT S k → insT S k (sv k') → goneT S k'
theorem Out.mono {S S' Z Z' : TS} {P Q : MV → Prop} (h : Out S Z P) (hs : Sub S' S) (hz : Sub Z Z') (hp : ∀ v, Q v → P v) : Out S' Z' Q := fun v hv => by
 obtain ⟨h1, h2⟩ := h v (hv.mono hs hp)
 exact ⟨fun k e => hz.gone k (h1 k e), fun o e => hz.leak o (h2 o e)⟩
theorem Leaked.out {S S' : TS} {P : MV → Prop} (h : Leaked S S' (Reach S P)) : Out S S' P := fun v hv =>
 ⟨fun k e => (h.gone k).mpr (.inr (e ▸ hv)), fun o e => (h.leak o).mpr (.inr (e ▸ hv))⟩
section
variable {S S' Z : TS} {P : MV → Prop}
theorem Leaked.ins_eq (h : Leaked S S' P) (W : TOK S) (k : Nat) (v : MV) : insT S' k v ↔ insT S k v := by
 obtain ⟨p1, p2, p3, p4, p5, p6, p7⟩ := tab_apart W
 unfold insT
 rw [h.same.inside]
 refine exists_congr fun l => and_congr_right fun hl => ?_
 have := p7 l (.inr (List.mem_map.mpr ⟨_, hl, rfl⟩))
 rw [h.rest l this.2.1 this.2.2.1]
theorem Leaked.held_eq (h : Leaked S S' P) (W : TOK S) (k : Int) (v : MV) : heldT S' k v ↔ heldT S k v := by
 obtain ⟨p1, p2, p3, p4, p5, p6, p7⟩ := tab_apart W
 unfold heldT
 rw [h.same.held]
 refine exists_congr fun l => and_congr_right fun hl => ?_
 have := p7 l (.inl (List.mem_map.mpr ⟨_, hl, rfl⟩))
 rw [h.rest l this.2.1 this.2.2.1]
theorem Leaked.kept_eq (h : Leaked S S' P) (W : TOK S) (i o : Int) : keptT S' i o ↔ keptT S i o := by
 obtain ⟨p1, p2, p3, p4, p5, p6, p7⟩ := tab_apart W
 unfold keptT
 rw [h.same.kept, h.rest _ (Ne.symm p5) (Ne.symm p6)]
theorem Leaked.site_eq (h : Leaked S S' P) (W : TOK S) (k : Nat) : siteT S' k ↔ siteT S k := by
 obtain ⟨p1, p2, p3, p4, p5, p6, p7⟩ := tab_apart W
 unfold siteT
 rw [h.same.sites, h.rest _ p1 p2]
theorem Leaked.sub (h : Leaked S S' (Reach S P)) (W : TOK S) (hz : Sub S Z) (hc : Out Z Z P) : Sub S' Z := by
 refine ⟨fun r v q => hz.held r v ((h.held_eq W r v).mp q), fun k v q => hz.ins k v ((h.ins_eq W k v).mp q), fun k q => ?_, fun k q => hz.site k ((h.site_eq W k).mp q), fun o q => ?_, fun i o q => hz.kept i o ((h.kept_eq W i o).mp q)⟩
 ·rcases (h.gone k).mp q with q | q
  ·exact hz.gone k q
  ·exact (hc _ (q.mono hz fun _ h => h)).1 k rfl
 ·rcases (h.leak o).mp q with q | q
  ·exact hz.leak o q
  ·exact (hc _ (q.mono hz fun _ h => h)).2 o rfl
theorem Leaked.ginv (h : Leaked S S' (Reach S P)) (W : TOK S) (g : GInv S) : GInv S' := fun k k' h1 h2 => by
 rw [h.ins_eq W] at h2
 rcases (h.gone k).mp h1 with q | q
 ·exact (h.gone k').mpr (.inl (g k k' q h2))
 ·exact (h.gone k').mpr (.inr (.step q (.ins h2)))
end
structure PutOut (S S' : TS) (P : MV → Prop) (o : Int) : Prop where
 same : Same S S'
 req : Kept S S' P o
 least : ∀ Z, Sub S Z → Kept Z Z P o → Sub S' Z
 ginv : GInv S → GInv S'
noncomputable abbrev putOutBody : List IS := [
  .ite (.cmp .Eq (.sub (.var 221) (.lit (.int 0))) (.lit (.str 202))) [
   .expr (.meth (.var 199) 120 [.list [.var 221]])] [],
  .expr (.meth (.var 199) 152 [.attr (.attr (.var 199) 214) 113, .tup [.ite (.cmp .Eq (.sub (.var 221) (.lit (.int 0))) (.lit (.str 162))) (.sub (.var 221) (.lit (.int 1))) (.glob 20), .var 162]])]
section
variable {C : Cx} {n : Nat} {σ₀ σ σ' : MH} {L : FL} {S S' : TS} {t d w k : Nat} {v x : MV} {ρ : List (Nat × MV)} {fs ts ws : List MV} {o : Int}
theorem put_sub {S Z : TS} {i o : Int} (W : TOK S) (hz : Sub S Z) (h : keptT Z i o) : Sub (S.put S.kept (addM (S.T S.kept) (.tup [.int i, .int o]))) Z := by
 obtain ⟨p1, p2, p3, p4, p5, p6, p7⟩ := tab_apart W
 refine ⟨fun r v ⟨l, a, b⟩ => ?_, fun r v ⟨l, a, b⟩ => ?_, fun k q => ?_, fun k q => ?_, fun k q => ?_, fun i' o' q => ?_⟩
 ·rcases put_T.mp b with b | ⟨e, _⟩
  ·exact hz.held r v ⟨l, a, b⟩
  ·exact absurd e (p7 l (.inl (List.mem_map.mpr ⟨_, a, rfl⟩))).2.2.2
 ·rcases put_T.mp b with b | ⟨e, _⟩
  ·exact hz.ins r v ⟨l, a, b⟩
  ·exact absurd e (p7 l (.inr (List.mem_map.mpr ⟨_, a, rfl⟩))).2.2.2
 ·rcases put_T.mp q with q | ⟨e, _⟩
  ·exact hz.gone k q
  ·exact absurd e p5
 ·rcases put_T.mp q with q | ⟨e, _⟩
  ·exact hz.site k q
  ·exact absurd e p3
 ·rcases put_T.mp q with q | ⟨e, _⟩
  ·exact hz.leak k q
  ·exact absurd e p6
 ·rcases put_T.mp q with q | ⟨_, e⟩
  ·exact hz.kept i' o' q
  ·simp at e; obtain ⟨rfl, rfl⟩ := e; exact h
theorem put_ginv {S : TS} {i o : Int} (W : TOK S) (g : GInv S) : GInv (S.put S.kept (addM (S.T S.kept) (.tup [.int i, .int o]))) := by
 obtain ⟨p1, p2, p3, p4, p5, p6, p7⟩ := tab_apart W
 intro k k' h1 h2
 have a1 : goneT S k := by
  rcases put_T.mp h1 with q | ⟨e, _⟩
  ·exact q
  ·exact absurd e p5
 obtain ⟨l, a, b⟩ := h2
 have b' : sv k' ∈ S.T l := by
  rcases put_T.mp b with q | ⟨e, _⟩
  ·exact q
  ·exact absurd e (p7 l (.inr (List.mem_map.mpr ⟨_, a, rfl⟩))).2.2.2
 exact put_T.mpr (.inl (g k k' a1 ⟨l, a, b'⟩))
end
end Mine
namespace Mine
open PySem PySem.W PyProof.Rows PySem.Calls PySem.Spec PySem.SeqAt
theorem mem_one (x : MV) : (fun v => v ∈ [x]) = (fun v => v = x) := by funext v; simp
theorem code_mem {v : MV} (h : TokOk v) : code v ∈ [(-1 : Int), 0, 1] := by
 cases h with
 | site _ => rw [code_sv]; simp
 | outer ho => rw [code_ov]; simp at ho ⊢; rcases ho with h | h <;> simp [h]
 | beyond => rw [code_bv]; simp
section
variable {C : Cx} {n : Nat} {σ₀ σ σ' : MH} {L : FL} {S S' : TS} {t d w k : Nat} {v x : MV} {ρ : List (Nat × MV)} {fs ts ws : List MV} {o : Int}
theorem putOut_note (H : L1 C) (W : FlowAt σ L S) (h199 : alook ρ 199 = some (.inst 208 L.f)) (h221 : alook ρ 221 = some x) (h162 : alook ρ 162 = some (.int o)) (ho : o ∈ [(0 : Int), 1]) (hx : TokOk x) :
  ∃ σ', N3 (X1 C (n + 2) (.expr (.meth (.var 199) 152 [.attr (.attr (.var 199) 214) 113, .tup [.ite (.cmp .Eq (.sub (.var 221) (.lit (.int 0))) (.lit (.str 162))) (.sub (.var 221) (.lit (.int 1))) (.glob 20), .var 162]])) ρ σ .next ρ σ') (FlowAt σ' L (S.put S.kept (addM (S.T S.kept) (.tup [.int (code x), .int o])))) (Kp (own L S) σ σ') := by
 obtain ⟨σ', hc, W', K⟩ := note_flow (n := n) (t := S.kept) (k := .tup [.int (code x), .int o]) H W (.inr (.inr (.inr (.inr ⟨rfl, code x, code_mem hx, o, ho, rfl⟩))))
 have hv : Ev C (n + 2) (.ite (.cmp .Eq (.sub (.var 221) (.lit (.int 0))) (.lit (.str 162))) (.sub (.var 221) (.lit (.int 1))) (.glob 20)) ρ σ (.int (code x)) σ := by
  cases hx with
  | @site k hk => rw [code_sv]; exact .iteF (ev_head (h := .str 202) (r := [.str k]) h221 (by decide) (by decide)) (.glob (gl_UNKNOWN H))
  | @outer j hj => exact .iteT (ev_head (h := .str 162) (r := [.int j]) h221 (by decide) (by decide)) (ev_item1 (.var h221))
  | beyond => exact .iteF (ev_head (h := .str 54) (r := []) h221 (by decide) (by decide)) (.glob (gl_UNKNOWN H))
 exact ⟨σ', .expr (ev_meth H W h199 (by decide) (me_EscapeFlow_note H) (.cons (ev_kept H W (ev_summary H W (.var h199))) (.cons (.tup (.cons hv (.cons (.var h162) .nil))) .nil)) hc), W', K⟩
theorem putOut_turn (H : L1 C) (W : FlowAt σ L S) (h199 : alook ρ 199 = some (.inst 208 L.f)) (h221 : alook ρ 221 = some x) (h162 : alook ρ 162 = some (.int o)) (ho : o ∈ [(0 : Int), 1]) (hx : TokOk x) :
  E2 fun σ' S' => N8 (Xs C (n + 4) putOutBody ρ σ .next ρ σ') (FlowAt σ' L S') (Kp (own L S) σ σ') (Same S S') ((∀ k, x = sv k → Out S S' (· = x))) (keptT S' (code x) o) ((∀ Z, Sub S Z → (∀ k, x = sv k → Out Z Z (· = x)) → keptT Z (code x) o → Sub S' Z)) ((GInv S → GInv S')) := by
 have nosite : (∀ k, x ≠ sv k) → (h : MV) → (r : List MV) → x = .tup (h :: r) → pv h 8 = true → h.beq (.str 202) = false → E2 fun σ' S' => N8 (Xs C (n + 4) putOutBody ρ σ .next ρ σ') (FlowAt σ' L S') (Kp (own L S) σ σ') (Same S S') ((∀ k, x = sv k → Out S S' (· = x))) (keptT S' (code x) o) ((∀ Z, Sub S Z → (∀ k, x = sv k → Out Z Z (· = x)) → keptT Z (code x) o → Sub S' Z)) ((GInv S → GInv S')) := fun hns h r hxe hp hb => by
  obtain ⟨σ', hX, W', K⟩ := putOut_note (n := n + 2) H W h199 h221 h162 ho hx
  have ht : Tst C (n + 4) (.cmp .Eq (.sub (.var 221) (.lit (.int 0))) (.lit (.str 202))) ρ σ false σ := by
   have := ev_head (C := C) (n := n + 4) (σ := σ) (h := h) (r := r) (i := 202) (hxe ▸ h221) hp (by decide)
   rwa [hb] at this
  exact ⟨σ', _, .cons (.ite_f ht .nil) (.cons hX .nil), W', K, Same.put .., fun k e => absurd e (hns k), put_T.mpr (.inr ⟨rfl, rfl⟩), fun Z hz _ hk => put_sub W.ok hz hk, put_ginv W.ok⟩
 have hx' := hx
 cases hx with
 | outer hj => exact nosite (fun k => sv_ne_ov) (.str 162) _ rfl (by decide) (by decide)
 | beyond => exact nosite (fun k => bv_ne_sv) (.str 54) _ rfl (by decide) (by decide)
 | @site k hk =>
  have W₁ : FlowAt (σ ++ [.list [sv k]]) L S := W.keep (Kp.new ..)
  obtain ⟨σ₂, S₂, hc, W₂, K₂, hL⟩ := leak_spec (n := n) (t := σ.length) (ts := [sv k]) H W₁ ⟨get_new _ _, by simpa using hx'⟩ (by simp)
  rw [mem_one] at hL
  obtain ⟨σ₃, hX, W₃, K₃⟩ := putOut_note (n := n + 2) (o := o) H W₂ h199 h221 h162 ho hx'
  rw [hL.same.own] at K₃
  have hsub : Sub S₂ (S₂.put S₂.kept (addM (S₂.T S₂.kept) (.tup [.int (code (sv k)), .int o]))) := (Same.put ..).sub
  refine ⟨σ₃, _, .cons (.ite_t (ev_head (h := .str 202) (r := [.str k]) h221 (by decide) (by decide)) (.cons (.expr (ev_meth H W h199 (by decide) (me_EscapeFlow_leak H) (.cons (.list (.cons (.var h221) .nil)) .nil) hc)) .nil)) (.cons hX .nil),
   W₃, ((Kp.new _ σ _).trans' K₂).trans' K₃, hL.same.trans (Same.put ..), fun k' e => hL.out.mono (Sub.refl S) hsub fun _ h => h, put_T.mpr (.inr ⟨rfl, rfl⟩), fun Z hz hout hk => put_sub W₂.ok (hL.sub W.ok hz (hout k rfl)) hk, fun g => put_ginv W₂.ok (hL.ginv W.ok g)⟩
theorem putOut_spec (H : L1 C) (W : FlowAt σ L S) (ht : LRow σ t ts) (hlen : ts.length ≤ 100) (ho : o ∈ [(0 : Int), 1]) :
  E2 fun σ' S' => N4 (CallEv C (n + 5) (.ref 142) [.inst 208 L.f, .int o, .loc t] σ .none σ') (FlowAt σ' L S') (Kp (own L S) σ σ') (PutOut S S' (· ∈ ts) o) := by
 obtain ⟨σ₁, z, zs, hr, K₁, hz, hrow, hzn, hzm⟩ := reached_spec (n := n + 1) H W ht hlen
 have W₁ := W.keep K₁
 let ρ₀ : List (Nat × MV) := [(199, .inst 208 L.f), (162, .int o), (222, .loc t)]
 have hit : ItEv C (n + 4) (.meth (.var 199) 172 [.var 222]) ρ₀ σ zs (fun σ' => σ'[z]? = some (.list zs)) σ₁ :=
  .of (ev_meth H W rfl (by decide) (me_EscapeFlow_reached H) (.cons (.var rfl) .nil) hr) (.list hrow.1)
 have hzo := W₁.list_off hrow.1
 let J : List MV → List (Nat × MV) → MH → Prop := fun rem ρ' σ' => E2 fun done S' => N9 (zs = done ++ rem) (FlowAt σ' L S') (Kp (own L S) σ₁ σ') (Same S S') ((∀ v ∈ done, (∀ k, v = sv k → Out S S' (· = v)) ∧ keptT S' (code v) o)) ((∀ Z, Sub S Z → Kept Z Z (· ∈ ts) o → Sub S' Z)) ((GInv S → GInv S')) (alook ρ' 199 = some (.inst 208 L.f)) (alook ρ' 162 = some (.int o))
 obtain ⟨ρ', σ', hl, done, S', e, W', K', hs, hreq, hleast, hg, _⟩ : E2 fun ρ' σ' => Loop C (n + 4) (.v 221) putOutBody (fun σ' => σ'[z]? = some (.list zs)) zs ρ₀ σ₁ .next ρ' σ' ∧ J [] ρ' σ' := by
  refine Loop.inv J ?_ ?_ zs ρ₀ σ₁ ⟨[], S, rfl, W₁, Kp.refl .., Same.refl S, by simp, fun Z hz _ => hz, id, rfl, rfl⟩
  ·rintro y rem ρ₁ σ₂ ⟨done, S₁, e, W₂, K₂, hs, hreq, hleast, hg, h1, h2⟩
   refine ⟨K₂.keep _ _ hzo hrow.1, ?_⟩
   obtain ⟨σ₃, S₃, hX, W₃, K₃, hs₃, hout₃, hk₃, hl₃, hg₃⟩ := putOut_turn (n := n) (ρ := aset ρ₁ 221 y) (x := y) H W₂ (look_ne h1 (by decide)) (alook_aset_same ..) (look_ne h2 (by decide)) ho (hrow.2 y (by rw [e]; simp))
   rw [hs.own] at K₃
   have hyR : Reach S (· ∈ ts) y := (hzm y).mp (by rw [e]; simp)
   refine ⟨_, .next, _, σ₃, rfl, hX, .inl rfl, done ++ [y], S₃, by rw [e]; simp, W₃, K₂.trans' K₃, hs.trans hs₃, fun v hv => ?_, fun Z hz hk => ?_, fun g => hg₃ (hg g), look_ne h1 (by decide), look_ne h2 (by decide)⟩
   ·rcases List.mem_append.mp hv with hv | hv
    ·exact ⟨fun k q => ((hreq v hv).1 k q).mono (Sub.refl S) hs₃.sub fun _ h => h, hs₃.sub.kept _ _ (hreq v hv).2⟩
    ·simp at hv; subst hv
     exact ⟨fun k q => (hout₃ k q).mono hs.sub (Sub.refl _) fun _ h => h, hk₃⟩
   ·have := hk y (hyR.mono hz fun _ h => h)
    exact hl₃ Z (hleast Z hz hk) (fun k q => by have := this.1 k q; rw [q]; exact this) this.2
  ·rintro ρ₁ σ₂ ⟨done, S₁, e, W₂, K₂, _⟩
   exact K₂.keep _ _ hzo hrow.1
 rw [List.append_nil] at e
 subst e
 exact ⟨σ', S', .fn (fn_EscapeFlow_put_out H) (.cons (.for hit hl) .nil) (.inr ⟨rfl, rfl⟩), W', (K₁.up).trans' K', hs, fun v hv => by
  have := hreq v ((hzm v).mpr hv)
  exact ⟨fun k q => by have := this.1 k q; rw [q] at this; exact this, this.2⟩, hleast, hg⟩
end
end Mine
namespace Mine
open PySem PySem.W PyProof.Rows PySem.Calls PySem.Spec PySem.SeqAt
structure Grew (m : Nat) (S S' : TS) : Prop where
 held : S.held <+: S'.held
 inside : S.inside <+: S'.inside
 sites : S'.sites = S.sites
 gone : S'.gone = S.gone
 leaks : S'.leaks = S.leaks
 kept : S'.kept = S.kept
 pre : ∀ x ∈ S.tabs, S.T x <+: S'.T x
 new : ∀ x ∈ S'.tabs, x ∈ S.tabs ∨ m ≤ x
theorem Same.grew {m : Nat} {S S' : TS} (h : Same S S') : Grew m S S' :=
 ⟨by rw [h.held]; exact List.prefix_refl _, by rw [h.inside]; exact List.prefix_refl _, h.sites, h.gone, h.leaks, h.kept, fun x _ => h.pre x, fun x hx => .inl (h.tabs ▸ hx)⟩
theorem tabs_grew {S S' : TS} (h1 : S.held <+: S'.held) (h2 : S.inside <+: S'.inside) (h3 : S'.sites = S.sites) (h4 : S'.gone = S.gone) (h5 : S'.leaks = S.leaks) (h6 : S'.kept = S.kept) {x : Nat} (hx : x ∈ S.tabs) : x ∈ S'.tabs := by
 simp only [TS.tabs, List.mem_append, h3, h4, h5, h6] at hx ⊢
 rcases hx with (hx | hx) | hx
 ·exact .inl (.inl hx)
 ·exact .inl (.inr (by obtain ⟨e, he, q⟩ := List.mem_map.mp hx; exact List.mem_map.mpr ⟨e, h1.subset he, q⟩))
 ·exact .inr (by obtain ⟨e, he, q⟩ := List.mem_map.mp hx; exact List.mem_map.mpr ⟨e, h2.subset he, q⟩)
theorem Grew.tabs {m : Nat} {S S' : TS} (h : Grew m S S') {x : Nat} (hx : x ∈ S.tabs) : x ∈ S'.tabs := tabs_grew h.held h.inside h.sites h.gone h.leaks h.kept hx
theorem Grew.refl (m : Nat) (S : TS) : Grew m S S := (Same.refl S).grew
theorem Grew.trans {m m' : Nat} {S S₁ S₂ : TS} (h : Grew m S S₁) (h' : Grew m' S₁ S₂) (hm : m ≤ m') : Grew m S S₂ :=
 ⟨h.held.trans h'.held, h.inside.trans h'.inside, h'.sites.trans h.sites, h'.gone.trans h.gone, h'.leaks.trans h.leaks, h'.kept.trans h.kept, fun x hx => (h.pre x hx).trans (h'.pre x (h.tabs hx)), fun x hx => by
  rcases h'.new x hx with q | q
  ·exact h.new x q
  ·exact .inr (Nat.le_trans hm q)⟩
theorem Grew.sub {m : Nat} {S S' : TS} (h : Grew m S S') : Sub S S' := by
 refine ⟨fun r v ⟨l, a, b⟩ => ⟨l, h.held.subset a, (h.pre l (held_tab a)).subset b⟩, fun r v ⟨l, a, b⟩ => ⟨l, h.inside.subset a, (h.pre l (ins_tab a)).subset b⟩, fun k q => ?_, fun k q => ?_, fun k q => ?_, fun i o q => ?_⟩
 ·show _ ∈ S'.T S'.gone; rw [h.gone]; exact (h.pre _ (gone_tab S)).subset q
 ·show _ ∈ S'.T S'.sites; rw [h.sites]; exact (h.pre _ (sites_tab S)).subset q
 ·show _ ∈ S'.T S'.leaks; rw [h.leaks]; exact (h.pre _ (leaks_tab S)).subset q
 ·show _ ∈ S'.T S'.kept; rw [h.kept]; exact (h.pre _ (kept_tab S)).subset q
theorem Grew.own {m : Nat} {S S' : TS} {L : FL} (h : Grew m S S') : ∀ a ∈ own L S', a ∈ own L S ∨ m ≤ a := fun a ha => by
 simp only [Mine.own, List.mem_cons] at ha ⊢
 rcases ha with h1 | h1 | h1 | h1
 ·exact .inl (.inl h1)
 ·exact .inl (.inr (.inl h1))
 ·exact .inl (.inr (.inr (.inl h1)))
 ·exact (h.new a h1).imp_left fun q => .inr (.inr (.inr q))
noncomputable def TS.addH (S : TS) (r : Int) (l : Nat) : TS := { S with held := S.held ++ [(r, l)], T := fun x => if x = l then [] else S.T x }
noncomputable def TS.addI (S : TS) (k : Nat) (l : Nat) : TS := { S with inside := S.inside ++ [(k, l)], T := fun x => if x = l then [] else S.T x }
section
variable {S : TS} {r : Int} {k l : Nat}
theorem mem_addH {x : Nat} : x ∈ (S.addH r l).tabs ↔ x ∈ S.tabs ∨ x = l := by
 simp only [TS.tabs, TS.addH, List.map_append, List.mem_append, List.map_cons, List.map_nil, List.mem_singleton]
 constructor
 ·rintro ((h | h | h) | h)
  ·exact .inl (.inl (.inl h))
  ·exact .inl (.inl (.inr h))
  ·exact .inr h
  ·exact .inl (.inr h)
 ·rintro (((h | h) | h) | h)
  ·exact .inl (.inl h)
  ·exact .inl (.inr (.inl h))
  ·exact .inr h
  ·exact .inl (.inr (.inr h))
theorem mem_addI {x : Nat} : x ∈ (S.addI k l).tabs ↔ x ∈ S.tabs ∨ x = l := by
 simp only [TS.tabs, TS.addI, List.map_append, List.mem_append, List.map_cons, List.map_nil, List.mem_singleton]
 constructor
 ·rintro ((h | h) | h | h)
  ·exact .inl (.inl (.inl h))
  ·exact .inl (.inl (.inr h))
  ·exact .inl (.inr h)
  ·exact .inr h
 ·rintro (((h | h) | h) | h)
  ·exact .inl (.inl h)
  ·exact .inl (.inr h)
  ·exact .inr (.inl h)
  ·exact .inr (.inr h)
theorem TOK.addH (W : TOK S) (hl : l ∉ S.tabs) (hr : 0 ≤ r ∧ r < 6) (hn : ∀ e ∈ S.held, e.1 ≠ r) : TOK (S.addH r l) := by
 have hT : ∀ x ∈ S.tabs, (S.addH r l).T x = S.T x := fun x hx => by
  have : x ≠ l := fun e => hl (e ▸ hx)
  simp [TS.addH, this]
 have hTl : (S.addH r l).T l = [] := by simp [TS.addH]
 refine ⟨?_, ?_, W.keysI, fun e he => ?_, W.sits, fun t ht => ?_, fun t ht v hv => ?_, fun v hv => ?_, fun v hv => ?_, fun v hv => ?_, fun v hv => ?_⟩
 ·have hp : (S.addH r l).tabs.Perm (l :: S.tabs) := by
   simp only [TS.tabs, TS.addH, List.map_append, List.map_cons, List.map_nil]
   have : ([S.sites, S.gone, S.leaks, S.kept] ++ (S.held.map (·.2) ++ [l]) ++ S.inside.map (·.2)) = ([S.sites, S.gone, S.leaks, S.kept] ++ S.held.map (·.2)) ++ (l :: S.inside.map (·.2)) := by simp
   rw [this]
   exact List.perm_middle
  exact hp.symm.nodup (List.nodup_cons.mpr ⟨hl, W.nodup⟩)
 ·simp only [TS.addH, List.map_append, List.map_cons, List.map_nil]
  rw [List.nodup_append]
  refine ⟨W.keysH, by simp, fun a ha b hb e => ?_⟩
  simp at hb; subst hb; subst e
  obtain ⟨q, hq, e⟩ := List.mem_map.mp ha
  exact hn q hq e
 ·rcases List.mem_append.mp he with h | h
  ·exact W.regs e h
  ·simp at h; subst h; exact hr
 ·rcases mem_addH.mp ht with h | h
  ·rw [hT t h]; exact W.rows t h
  ·rw [h, hTl]; simp
 ·have : t ∈ (S.addH r l).tabs := by
   simp only [TS.tabs, List.mem_append]
   rcases ht with h | h
   ·exact .inl (.inr h)
   ·exact .inr h
  rcases mem_addH.mp this with h | h
  ·rw [hT t h] at hv
   refine W.toks t ?_ v hv
   rcases ht with q | q
   ·simp only [TS.addH, List.map_append, List.map_cons, List.map_nil, List.mem_append, List.mem_singleton] at q
    exact .inl (q.resolve_right fun e => hl (e ▸ h))
   ·exact .inr q
  ·rw [h, hTl] at hv; simp at hv
 ·have : v ∈ (S.addH r l).T S.sites := hv
  rw [hT _ (sites_tab S)] at this; exact W.site v this
 ·have : v ∈ (S.addH r l).T S.gone := hv
  rw [hT _ (gone_tab S)] at this; exact W.gon v this
 ·have : v ∈ (S.addH r l).T S.leaks := hv
  rw [hT _ (leaks_tab S)] at this; exact W.leak v this
 ·have : v ∈ (S.addH r l).T S.kept := hv
  rw [hT _ (kept_tab S)] at this; exact W.kep v this
theorem TOK.addI (W : TOK S) (hl : l ∉ S.tabs) (hr : k ∈ [48, 53, 59, 76]) (hn : ∀ e ∈ S.inside, e.1 ≠ k) : TOK (S.addI k l) := by
 have hT : ∀ x ∈ S.tabs, (S.addI k l).T x = S.T x := fun x hx => by
  have : x ≠ l := fun e => hl (e ▸ hx)
  simp [TS.addI, this]
 have hTl : (S.addI k l).T l = [] := by simp [TS.addI]
 refine ⟨?_, W.keysH, ?_, W.regs, fun e he => ?_, fun t ht => ?_, fun t ht v hv => ?_, fun v hv => ?_, fun v hv => ?_, fun v hv => ?_, fun v hv => ?_⟩
 ·have hp : (S.addI k l).tabs.Perm (l :: S.tabs) := by
   simp only [TS.tabs, TS.addI, List.map_append, List.map_cons, List.map_nil]
   rw [← List.append_assoc]
   exact List.perm_append_singleton ..
  exact hp.symm.nodup (List.nodup_cons.mpr ⟨hl, W.nodup⟩)
 ·simp only [TS.addI, List.map_append, List.map_cons, List.map_nil]
  rw [List.nodup_append]
  refine ⟨W.keysI, by simp, fun a ha b hb e => ?_⟩
  simp at hb; subst hb; subst e
  obtain ⟨q, hq, e⟩ := List.mem_map.mp ha
  exact hn q hq e
 ·rcases List.mem_append.mp he with h | h
  ·exact W.sits e h
  ·simp at h; subst h; exact hr
 ·rcases mem_addI.mp ht with h | h
  ·rw [hT t h]; exact W.rows t h
  ·rw [h, hTl]; simp
 ·have : t ∈ (S.addI k l).tabs := by
   simp only [TS.tabs, List.mem_append]
   rcases ht with h | h
   ·exact .inl (.inr h)
   ·exact .inr h
  rcases mem_addI.mp this with h | h
  ·rw [hT t h] at hv
   refine W.toks t ?_ v hv
   rcases ht with q | q
   ·exact .inl q
   ·simp only [TS.addI, List.map_append, List.map_cons, List.map_nil, List.mem_append, List.mem_singleton] at q
    exact .inr (q.resolve_right fun e => hl (e ▸ h))
  ·rw [h, hTl] at hv; simp at hv
 ·have : v ∈ (S.addI k l).T S.sites := hv
  rw [hT _ (sites_tab S)] at this; exact W.site v this
 ·have : v ∈ (S.addI k l).T S.gone := hv
  rw [hT _ (gone_tab S)] at this; exact W.gon v this
 ·have : v ∈ (S.addI k l).T S.leaks := hv
  rw [hT _ (leaks_tab S)] at this; exact W.leak v this
 ·have : v ∈ (S.addI k l).T S.kept := hv
  rw [hT _ (kept_tab S)] at this; exact W.kep v this
end
end Mine
namespace Mine
open PySem PySem.W PyProof.Rows PySem.Calls PySem.Spec PySem.SeqAt
section
variable {C : Cx} {n : Nat} {σ₀ σ σ' : MH} {L : FL} {S S' : TS} {t d w k l : Nat} {v x : MV} {ρ : List (Nat × MV)} {fs ts ws : List MV} {r : Int} {e o : IE}
structure Opened (m : Nat) (S S' : TS) : Prop where
 grew : Grew m S S'
 back : Sub S' S
 ginv : GInv S → GInv S'
theorem Opened.refl (m : Nat) (S : TS) : Opened m S S := ⟨Grew.refl m S, Sub.refl S, id⟩
theorem opened_H (W : TOK S) (hl : l ∉ S.tabs) {m : Nat} (hm : m ≤ l) : Opened m S (S.addH r l) := by
 have hT : ∀ x ∈ S.tabs, (S.addH r l).T x = S.T x := fun x hx => by
  have : x ≠ l := fun e => hl (e ▸ hx)
  simp [TS.addH, this]
 have hTl : (S.addH r l).T l = [] := by simp [TS.addH]
 have back : Sub (S.addH r l) S := by
  refine ⟨fun q v ⟨l', a, b⟩ => ?_, fun q v ⟨l', a, b⟩ => ?_, fun k q => ?_, fun k q => ?_, fun k q => ?_, fun i o q => ?_⟩
  ·rcases List.mem_append.mp a with a | a
   ·rw [hT l' (held_tab a)] at b; exact ⟨l', a, b⟩
   ·simp at a; rw [a.2, hTl] at b; simp at b
  ·have a' : (q, l') ∈ S.inside := a
   rw [hT l' (ins_tab a')] at b; exact ⟨l', a', b⟩
  ·have q' : _ ∈ (S.addH r l).T S.gone := q
   rw [hT _ (gone_tab S)] at q'; exact q'
  ·have q' : _ ∈ (S.addH r l).T S.sites := q
   rw [hT _ (sites_tab S)] at q'; exact q'
  ·have q' : _ ∈ (S.addH r l).T S.leaks := q
   rw [hT _ (leaks_tab S)] at q'; exact q'
  ·have q' : _ ∈ (S.addH r l).T S.kept := q
   rw [hT _ (kept_tab S)] at q'; exact q'
 have grew : Grew m S (S.addH r l) := ⟨List.prefix_append _ _, List.prefix_refl _, rfl, rfl, rfl, rfl, fun x hx => by rw [hT x hx]; exact List.prefix_refl _, fun x hx => (mem_addH.mp hx).elim .inl fun q => .inr (by rw [q]; exact hm)⟩
 exact ⟨grew, back, fun g k k' h1 h2 => grew.sub.gone _ (g k k' (back.gone _ h1) (back.ins _ _ h2))⟩
theorem opened_I (W : TOK S) (hl : l ∉ S.tabs) {m : Nat} (hm : m ≤ l) : Opened m S (S.addI k l) := by
 have hT : ∀ x ∈ S.tabs, (S.addI k l).T x = S.T x := fun x hx => by
  have : x ≠ l := fun e => hl (e ▸ hx)
  simp [TS.addI, this]
 have hTl : (S.addI k l).T l = [] := by simp [TS.addI]
 have back : Sub (S.addI k l) S := by
  refine ⟨fun q v ⟨l', a, b⟩ => ?_, fun q v ⟨l', a, b⟩ => ?_, fun k q => ?_, fun k q => ?_, fun k q => ?_, fun i o q => ?_⟩
  ·have a' : (q, l') ∈ S.held := a
   rw [hT l' (held_tab a')] at b; exact ⟨l', a', b⟩
  ·rcases List.mem_append.mp a with a | a
   ·rw [hT l' (ins_tab a)] at b; exact ⟨l', a, b⟩
   ·simp at a; rw [a.2, hTl] at b; simp at b
  ·have q' : _ ∈ (S.addI _ l).T S.gone := q
   rw [hT _ (gone_tab S)] at q'; exact q'
  ·have q' : _ ∈ (S.addI _ l).T S.sites := q
   rw [hT _ (sites_tab S)] at q'; exact q'
  ·have q' : _ ∈ (S.addI _ l).T S.leaks := q
   rw [hT _ (leaks_tab S)] at q'; exact q'
  ·have q' : _ ∈ (S.addI _ l).T S.kept := q
   rw [hT _ (kept_tab S)] at q'; exact q'
 have grew : Grew m S (S.addI k l) := ⟨List.prefix_refl _, List.prefix_append _ _, rfl, rfl, rfl, rfl, fun x hx => by rw [hT x hx]; exact List.prefix_refl _, fun x hx => (mem_addI.mp hx).elim .inl fun q => .inr (by rw [q]; exact hm)⟩
 exact ⟨grew, back, fun g k k' h1 h2 => grew.sub.gone _ (g k k' (back.gone _ h1) (back.ins _ _ h2))⟩
theorem FlowAt.lt (W : FlowAt σ L S) {x : Nat} (hx : x ∈ own L S) : x < σ.length := by
 simp only [own, List.mem_cons] at hx
 rcases hx with rfl | rfl | rfl | hx
 ·obtain ⟨as, a1, _⟩ := W.ns; exact (List.getElem?_eq_some_iff.mp a1).1
 ·obtain ⟨_, a1⟩ := W.held; exact (List.getElem?_eq_some_iff.mp a1).1
 ·obtain ⟨_, a1⟩ := W.inside; exact (List.getElem?_eq_some_iff.mp a1).1
 ·obtain ⟨_, a1⟩ := W.tab x hx; exact (List.getElem?_eq_some_iff.mp a1).1
theorem new_off (W : FlowAt σ L S) : σ.length ∉ S.tabs := fun h => Nat.lt_irrefl _ (W.lt (by simp [own, h]))
theorem held_open (H : L1 C) (W : FlowAt σ L S) (hr : 0 ≤ r ∧ r < 6) (he : Ev C (n + 1) e ρ σ (.int r) σ) (ho : Ev C (n + 1) o ρ σ (.loc L.lh) σ) :
  E3 fun l σ' S' => N5 (Ev C (n + 1) (.meth o 201 [e, .dict [] []]) ρ σ (.loc l) σ') (FlowAt σ' L S') (Kp (own L S) σ σ') (Opened σ.length S S') ((r, l) ∈ S'.held) := by
 obtain ⟨w1, ⟨as, a1, a2⟩, w0, ⟨bs, b1, b2⟩, ⟨ep, c1⟩, ⟨e2, d1⟩, w6, w7⟩ := id W
 have K₀ : Kp [] σ (σ ++ [.dict 0 []]) := Kp.new ..
 have hd' : (σ ++ [.dict 0 []])[L.lh]? = some (.dict ep (S.held.map fun e => (.int e.1, .loc e.2))) := K₀.get c1
 have hfit : Fits (S.held.map fun e => (MV.int e.1, MV.loc e.2)) (.int r) := .inl ⟨⟨_, rfl⟩, fun e he => by
  obtain ⟨q, hq, rfl⟩ := List.mem_map.mp he
  exact ⟨_, rfl⟩⟩
 have hlen : S.held.length ≤ 6 := by
  have := length_le_of_sub (xs := S.held.map (·.1)) (ys := [(0 : Int), 1, 2, 3, 4, 5]) w1.keysH fun x hx => by
   obtain ⟨e, he, rfl⟩ := List.mem_map.mp hx
   have := w1.regs e he
   simp; lia
  simpa using this
 have hset := CallEv.setdefault (C := C) (n := n) (w := .loc σ.length) hd' hfit (by rw [sizeLine_eq]; simp; lia)
 rw [dget_ints] at hset
 have hmeth : ∀ {w : MV} {σ'' : MH}, CallEv C (n + 1) (.builtin "dict.setdefault") [.loc L.lh, .int r, .loc σ.length] (σ ++ [.dict 0 []]) w σ'' → Ev C (n + 1) (.meth o 201 [e, .dict [] []]) ρ σ w σ'' := fun h =>
  Ev.methB ho (kind_dict c1) bm_setdefault (ha := .cons he (.cons .dict0 .nil)) (hq := h)
 cases hf : S.held.find? (fun e => e.1 == r) with
 | some p =>
  rw [hf] at hset
  have hp := List.mem_of_find?_eq_some hf
  have hpk : p.1 = r := by have := List.find?_some hf; simpa using this
  obtain ⟨p1, l⟩ := p
  simp only at hpk
  subst hpk
  exact ⟨l, _, S, hmeth hset, W.keep K₀, K₀.up, Opened.refl .., hp⟩
 | none =>
  rw [hf] at hset
  dsimp only [Option.map, Option.getD] at hset
  have hno : ∀ e ∈ S.held, e.1 ≠ r := fun e he q => by
   have := List.find?_eq_none.mp hf e he
   simp [q] at this
  have hoff := new_off W
  have hlt : L.lh < (σ ++ [MO.dict 0 []]).length := (List.getElem?_eq_some_iff.mp hd').1
  have hlh : L.lh ≠ σ.length := fun q => by have := W.lt (x := L.lh) (by simp [own]); lia
  have K₁ : Kp [L.lh] (σ ++ [.dict 0 []]) ((σ ++ [MO.dict 0 []]).set L.lh (MO.dict (ep + 1) ((S.held.map fun e => (MV.int e.1, MV.loc e.2)) ++ [(MV.int r, MV.loc σ.length)]))) := Kp.of (Upd.set ..) (by simp)
  have K : Kp [L.lh] σ ((σ ++ [MO.dict 0 []]).set L.lh (MO.dict (ep + 1) ((S.held.map fun e => (MV.int e.1, MV.loc e.2)) ++ [(MV.int r, MV.loc σ.length)]))) := (K₀.up).trans' K₁
  have old : ∀ {i : Nat} {ob : MO}, σ[i]? = some ob → i ≠ L.lh → ((σ ++ [MO.dict 0 []]).set L.lh (MO.dict (ep + 1) ((S.held.map fun e => (MV.int e.1, MV.loc e.2)) ++ [(MV.int r, MV.loc σ.length)])))[i]? = some ob := fun {i ob} h1 h2 => K.keep i ob (by simpa using h2) h1
  refine ⟨σ.length, _, S.addH r σ.length, hmeth hset, ⟨w1.addH hoff hr hno, ⟨as, old a1 ?_, a2⟩, fun as' q => ?_, ⟨bs, old b1 ?_, b2⟩, ⟨ep + 1, ?_⟩, ⟨e2, old d1 w7.2.2.1.symm⟩, fun x hx => ?_, ?_, ?_, w7.2.2⟩, K.weak (by simp [own]), opened_H w1 hoff (Nat.le_refl _), by simp [TS.addH]⟩
  ·intro q; rw [q, c1] at a1; cases a1
  ·rw [old a1 (fun q => by rw [q, c1] at a1; cases a1)] at q
   exact w0 as' (by rw [a1]; exact q)
  ·intro q; rw [q, c1] at b1; cases b1
  ·rw [List.getElem?_set_self hlt]; simp [TS.addH]
  ·rcases mem_addH.mp hx with h | h
   ·obtain ⟨q, hq⟩ := w6 x h
    have hne : x ≠ σ.length := fun e => hoff (e ▸ h)
    exact ⟨q, by rw [old hq (fun e => w7.1 (e ▸ h))]; simp [TS.addH, hne]⟩
   ·subst h
    refine ⟨0, ?_⟩
    rw [List.getElem?_set_ne hlh, get_new]
    simp [TS.addH, tds]
  ·intro h; rcases mem_addH.mp h with h | h
   ·exact w7.1 h
   ·exact hlh h
  ·intro h; rcases mem_addH.mp h with h | h
   ·exact w7.2.1 h
   ·have := W.lt (x := L.li) (by simp [own]); lia
theorem inside_open (H : L1 C) (W : FlowAt σ L S) (hr : k ∈ [48, 53, 59, 76]) (he : Ev C (n + 1) e ρ σ (.str k) σ) (ho : Ev C (n + 1) o ρ σ (.loc L.li) σ) :
  E3 fun l σ' S' => N5 (Ev C (n + 1) (.meth o 201 [e, .dict [] []]) ρ σ (.loc l) σ') (FlowAt σ' L S') (Kp (own L S) σ σ') (Opened σ.length S S') ((k, l) ∈ S'.inside) := by
 obtain ⟨w1, ⟨as, a1, a2⟩, w0, ⟨bs, b1, b2⟩, ⟨ep, c1⟩, ⟨e2, d1⟩, w6, w7⟩ := id W
 have K₀ : Kp [] σ (σ ++ [.dict 0 []]) := Kp.new ..
 have hd' : (σ ++ [.dict 0 []])[L.li]? = some (.dict e2 (S.inside.map fun e => (.str e.1, .loc e.2))) := K₀.get d1
 have hfit : Fits (S.inside.map fun e => (MV.str e.1, MV.loc e.2)) (.str k) := .inl ⟨str_atom (site_lt hr), fun e he => by
  obtain ⟨q, hq, rfl⟩ := List.mem_map.mp he
  exact str_atom (site_lt (w1.sits q hq))⟩
 have hlen : S.inside.length ≤ 6 := by
  have := length_le_of_sub (xs := S.inside.map (·.1)) (ys := [48, 53, 59, 76]) w1.keysI fun x hx => by
   obtain ⟨e, he, rfl⟩ := List.mem_map.mp hx
   exact w1.sits e he
  simp at this; lia
 have hset := CallEv.setdefault (C := C) (n := n) (w := .loc σ.length) hd' hfit (by rw [sizeLine_eq]; simp; lia)
 rw [dget_strs] at hset
 have hmeth : ∀ {w : MV} {σ'' : MH}, CallEv C (n + 1) (.builtin "dict.setdefault") [.loc L.li, .str k, .loc σ.length] (σ ++ [.dict 0 []]) w σ'' → Ev C (n + 1) (.meth o 201 [e, .dict [] []]) ρ σ w σ'' := fun h =>
  Ev.methB ho (kind_dict d1) bm_setdefault (ha := .cons he (.cons .dict0 .nil)) (hq := h)
 cases hf : S.inside.find? (fun e => e.1 == k) with
 | some p =>
  rw [hf] at hset
  have hp := List.mem_of_find?_eq_some hf
  have hpk : p.1 = k := by have := List.find?_some hf; simpa using this
  obtain ⟨p1, l⟩ := p
  simp only at hpk
  subst hpk
  exact ⟨l, _, S, hmeth hset, W.keep K₀, K₀.up, Opened.refl .., hp⟩
 | none =>
  rw [hf] at hset
  dsimp only [Option.map, Option.getD] at hset
  have hno : ∀ e ∈ S.inside, e.1 ≠ k := fun e he q => by
   have := List.find?_eq_none.mp hf e he
   simp [q] at this
  have hoff := new_off W
  have hlt : L.li < (σ ++ [MO.dict 0 []]).length := (List.getElem?_eq_some_iff.mp hd').1
  have hlh : L.li ≠ σ.length := fun q => by have := W.lt (x := L.li) (by simp [own]); lia
  have K₁ : Kp [L.li] (σ ++ [.dict 0 []]) ((σ ++ [MO.dict 0 []]).set L.li (MO.dict (e2 + 1) ((S.inside.map fun e => (MV.str e.1, MV.loc e.2)) ++ [(MV.str k, MV.loc σ.length)]))) := Kp.of (Upd.set ..) (by simp)
  have K : Kp [L.li] σ ((σ ++ [MO.dict 0 []]).set L.li (MO.dict (e2 + 1) ((S.inside.map fun e => (MV.str e.1, MV.loc e.2)) ++ [(MV.str k, MV.loc σ.length)]))) := (K₀.up).trans' K₁
  have old : ∀ {i : Nat} {ob : MO}, σ[i]? = some ob → i ≠ L.li → ((σ ++ [MO.dict 0 []]).set L.li (MO.dict (e2 + 1) ((S.inside.map fun e => (MV.str e.1, MV.loc e.2)) ++ [(MV.str k, MV.loc σ.length)])))[i]? = some ob := fun {i ob} h1 h2 => K.keep i ob (by simpa using h2) h1
  refine ⟨σ.length, _, S.addI k σ.length, hmeth hset, ⟨w1.addI hoff hr hno, ⟨as, old a1 ?_, a2⟩, fun as' q => ?_, ⟨bs, old b1 ?_, b2⟩, ⟨ep, old c1 w7.2.2.1⟩, ⟨e2 + 1, ?_⟩, fun x hx => ?_, ?_, ?_, w7.2.2⟩, K.weak (by simp [own]), opened_I w1 hoff (Nat.le_refl _), by simp [TS.addI]⟩
  ·intro q; rw [q, d1] at a1; cases a1
  ·rw [old a1 (fun q => by rw [q, d1] at a1; cases a1)] at q
   exact w0 as' (by rw [a1]; exact q)
  ·intro q; rw [q, d1] at b1; cases b1
  ·rw [List.getElem?_set_self hlt]; simp [TS.addI]
  ·rcases mem_addI.mp hx with h | h
   ·obtain ⟨q, hq⟩ := w6 x h
    have hne : x ≠ σ.length := fun e => hoff (e ▸ h)
    exact ⟨q, by rw [old hq (fun e => w7.2.1 (e ▸ h))]; simp [TS.addI, hne]⟩
   ·subst h
    refine ⟨0, ?_⟩
    rw [List.getElem?_set_ne hlh, get_new]
    simp [TS.addI, tds]
  ·intro h; rcases mem_addI.mp h with h | h
   ·exact w7.1 h
   ·have := W.lt (x := L.lh) (by simp [own]); lia
  ·intro h; rcases mem_addI.mp h with h | h
   ·exact w7.2.1 h
   ·exact hlh h
end
end Mine
namespace Mine
open PySem PySem.W PyProof.Rows PySem.Calls PySem.Spec PySem.SeqAt
theorem held_uniq {S : TS} (W : TOK S) {r r' : Int} {l : Nat} (h : (r, l) ∈ S.held) (h' : (r', l) ∈ S.held) : r = r' := by
 have hn : (S.held.map (·.2)).Nodup := by
  have := W.nodup
  simp only [TS.tabs] at this
  rw [List.nodup_append] at this
  have := this.1
  rw [List.nodup_append] at this
  exact this.2.1
 obtain ⟨i, hi⟩ := List.mem_iff_getElem?.mp h
 obtain ⟨j, hj⟩ := List.mem_iff_getElem?.mp h'
 have e1 : (S.held.map (·.2))[i]? = some l := by rw [List.getElem?_map, hi]; rfl
 have e2 : (S.held.map (·.2))[j]? = some l := by rw [List.getElem?_map, hj]; rfl
 have := (List.getElem?_inj (List.getElem?_eq_some_iff.mp e1).1 hn).mp (e1.trans e2.symm)
 subst this
 rw [hi] at hj; cases hj; rfl
theorem ins_uniq {S : TS} (W : TOK S) {r r' : Nat} {l : Nat} (h : (r, l) ∈ S.inside) (h' : (r', l) ∈ S.inside) : r = r' := by
 have hn : (S.inside.map (·.2)).Nodup := by
  have := W.nodup
  simp only [TS.tabs] at this
  rw [List.nodup_append] at this
  exact this.2.1
 obtain ⟨i, hi⟩ := List.mem_iff_getElem?.mp h
 obtain ⟨j, hj⟩ := List.mem_iff_getElem?.mp h'
 have e1 : (S.inside.map (·.2))[i]? = some l := by rw [List.getElem?_map, hi]; rfl
 have e2 : (S.inside.map (·.2))[j]? = some l := by rw [List.getElem?_map, hj]; rfl
 have := (List.getElem?_inj (List.getElem?_eq_some_iff.mp e1).1 hn).mp (e1.trans e2.symm)
 subst this
 rw [hi] at hj; cases hj; rfl
theorem held_ins {S : TS} (W : TOK S) {r : Int} {k : Nat} {l : Nat} (h : (r, l) ∈ S.held) (h' : (k, l) ∈ S.inside) : False := by
 have := W.nodup
 simp only [TS.tabs] at this
 rw [List.nodup_append] at this
 exact this.2.2 l (List.mem_append_right _ (List.mem_map.mpr ⟨_, h, rfl⟩)) l (List.mem_map.mpr ⟨_, h', rfl⟩) rfl
structure AddH (m : Nat) (S S' : TS) (r : Int) (P : MV → Prop) : Prop where
 grew : Grew m S S'
 req : ∀ v, P v → heldT S' r v
 least : ∀ Z, Sub S Z → (∀ v, P v → heldT Z r v) → Sub S' Z
 ginv : GInv S → GInv S'
structure AddI (m : Nat) (S S' : TS) (k : Nat) (P : MV → Prop) : Prop where
 grew : Grew m S S'
 req : ∀ v, P v → insT S' k v
 least : ∀ Z, Sub S Z → (∀ v, P v → insT Z k v) → Sub S' Z
 gone : ∀ j, goneT S' j ↔ goneT S j
 ins : ∀ j v, insT S' j v ↔ insT S j v ∨ (j = k ∧ P v)
section
variable {S S' Z : TS} {r : Int} {k l : Nat} {v : MV}
theorem put_held (W : TOK S) (hl : (r, l) ∈ S.held) (hz : Sub S Z) (h : heldT Z r v) : Sub (S.put l (addM (S.T l) v)) Z := by
 obtain ⟨p1, p2, p3, p4, p5, p6, p7⟩ := tab_apart W
 have q7 := p7 l (.inl (List.mem_map.mpr ⟨_, hl, rfl⟩))
 refine ⟨fun q u ⟨l', a, b⟩ => ?_, fun q u ⟨l', a, b⟩ => ?_, fun j q => ?_, fun j q => ?_, fun j q => ?_, fun i' o' q => ?_⟩
 ·rcases put_T.mp b with b | ⟨rfl, rfl⟩
  ·exact hz.held q u ⟨l', a, b⟩
  ·have a' : (q, l') ∈ S.held := a
   rw [held_uniq W a' hl]; exact h
 ·rcases put_T.mp b with b | ⟨rfl, _⟩
  ·exact hz.ins q u ⟨l', a, b⟩
  ·exact (held_ins W hl a).elim
 ·exact hz.gone j ((put_T.mp q).resolve_right fun e => q7.2.1 e.1.symm)
 ·exact hz.site j ((put_T.mp q).resolve_right fun e => q7.1 e.1.symm)
 ·exact hz.leak j ((put_T.mp q).resolve_right fun e => q7.2.2.1 e.1.symm)
 ·exact hz.kept i' o' ((put_T.mp q).resolve_right fun e => q7.2.2.2 e.1.symm)
theorem put_held_ginv (W : TOK S) (hl : (r, l) ∈ S.held) (g : GInv S) : GInv (S.put l (addM (S.T l) v)) := by
 obtain ⟨p1, p2, p3, p4, p5, p6, p7⟩ := tab_apart W
 have q7 := p7 l (.inl (List.mem_map.mpr ⟨_, hl, rfl⟩))
 intro k k' h1 ⟨l', a, b⟩
 have h1' : goneT S k := (put_T.mp h1).resolve_right fun e => q7.2.1 e.1.symm
 have b' : sv k' ∈ S.T l' := (put_T.mp b).resolve_right fun e => by
  have a' : (k, l') ∈ S.inside := a
  rw [e.1] at a'; exact held_ins W hl a'
 exact put_T.mpr (.inl (g k k' h1' ⟨l', a, b'⟩))
end
section
variable {C : Cx} {n : Nat} {σ₀ σ σ' : MH} {L : FL} {S S' : TS} {t d w k l : Nat} {v x : MV} {ρ : List (Nat × MV)} {fs ts ws : List MV} {r : Int} {e o : IE}
noncomputable abbrev noteBody : List IS := [.expr (.meth (.var 199) 152 [.var 101, .var 221])]
theorem chain_Kp {m : Nat} {σ σ₁ σ₂ : MH} {S S₁ : TS} (h : Kp (own L S) σ σ₁) (h' : Kp (own L S₁) σ₁ σ₂) (g : Grew m S S₁) (hm : σ.length ≤ m) : Kp (own L S) σ σ₂ :=
 h.trans h' fun a ha => (g.own a ha).imp_right fun q => Nat.le_trans hm q
theorem give_spec (H : L1 C) (W : FlowAt σ L S) (ht : LRow σ t ts) (hr : 0 ≤ r ∧ r < 6) :
  E2 fun σ' S' => N4 (CallEv C (n + 3) (.ref 114) [.inst 208 L.f, .int r, .loc t] σ .none σ') (FlowAt σ' L S') (Kp (own L S) σ σ') (AddH σ.length S S' r (· ∈ ts)) := by
 let ρ₀ : List (Nat × MV) := [(199, .inst 208 L.f), (177, .int r), (222, .loc t)]
 obtain ⟨l, σ₁, S₁, hev, W₁, K₁, hop, hl⟩ := held_open (n := n + 1) (ρ := ρ₀) (e := .var 177) (o := .attr (.var 199) 101) H W hr (.var rfl) (ev_held H W rfl)
 have hto := W.list_off ht.1
 have ht1 : σ₁[t]? = some (.list ts) := K₁.keep _ _ hto ht.1
 have hto1 := W₁.list_off ht1
 let J : List MV → List (Nat × MV) → MH → Prop := fun rem ρ' σ' => E2 fun done S' => N9 (ts = done ++ rem) (FlowAt σ' L S') (Kp (own L S₁) σ₁ σ') (Same S₁ S') ((∀ v ∈ done, heldT S' r v)) ((∀ Z, Sub S₁ Z → (∀ v ∈ ts, heldT Z r v) → Sub S' Z)) ((GInv S₁ → GInv S')) (alook ρ' 199 = some (.inst 208 L.f)) (alook ρ' 101 = some (.loc l))
 obtain ⟨ρ', σ', hlp, done, S', e', W', K', hs, hreq, hleast, hg, _⟩ : E2 fun ρ' σ' => Loop C (n + 2) (.v 221) noteBody (fun σ' => σ'[t]? = some (.list ts)) ts (aset ρ₀ 101 (.loc l)) σ₁ .next ρ' σ' ∧ J [] ρ' σ' := by
  refine Loop.inv J ?_ ?_ ts _ σ₁ ⟨[], S₁, rfl, W₁, Kp.refl .., Same.refl _, by simp, fun Z hz _ => hz, id, rfl, rfl⟩
  ·rintro y rem ρ₁ σ₂ ⟨done, S₂, e', W₂, K₂, hs, hreq, hleast, hg, h1, h2⟩
   refine ⟨K₂.keep _ _ hto1 ht1, ?_⟩
   have hl2 : (r, l) ∈ S₂.held := hs.held ▸ hl
   have hy : TokOk y := ht.2 y (by rw [e']; simp)
   obtain ⟨σ₃, hc, W₃, K₃⟩ := note_flow (n := n) (t := l) (k := y) H W₂ (.inl ⟨.inl (List.mem_map.mpr ⟨_, hl2, rfl⟩), hy⟩)
   rw [hs.own] at K₃
   have a199 : alook (aset ρ₁ 221 y) 199 = some (.inst 208 L.f) := look_ne h1 (by decide)
   have a101 : alook (aset ρ₁ 221 y) 101 = some (.loc l) := look_ne h2 (by decide)
   have hsame : Same S₂ (S₂.put l (addM (S₂.T l) y)) := Same.put ..
   refine ⟨_, .next, _, σ₃, rfl, .cons (.expr (ev_meth H W₂ a199 (by decide) (me_EscapeFlow_note H) (.cons (.var a101) (.cons (.var (alook_aset_same ..)) .nil)) hc)) .nil, .inl rfl, done ++ [y], _, by rw [e']; simp, W₃, K₂.trans' K₃, hs.trans hsame, fun v hv => ?_, fun Z hz hq => put_held W₂.ok hl2 (hleast Z hz hq) (hq y (by rw [e']; simp)), fun g => put_held_ginv W₂.ok hl2 (hg g), a199, a101⟩
   rcases List.mem_append.mp hv with hv | hv
   ·exact hsame.sub.held r v (hreq v hv)
   ·simp at hv; subst hv
    exact ⟨l, hl2, put_T.mpr (.inr ⟨rfl, rfl⟩)⟩
  ·rintro ρ₁ σ₂ ⟨done, S₂, e', W₂, K₂, _⟩
   exact K₂.keep _ _ hto1 ht1
 rw [List.append_nil] at e'
 have htest : Tst C (n + 2) (.cmp .IsNot (.var 177) (.lit .none)) ρ₀ σ true σ := .cmp (.var rfl) .lit (Op.isNotNone (by simp))
 subst e'
 exact ⟨σ', S', .fn (fn_EscapeFlow_give H) (.cons (.ite_t htest (.cons (.setv hev) (.cons (.for (.of (.var rfl) (.list ht1)) hlp) .nil))) .nil) (.inr ⟨rfl, rfl⟩), W', chain_Kp K₁ K' hop.grew (Nat.le_refl _), hop.grew.trans hs.grew K₁.len,
  hreq, fun Z hz hq => hleast Z (hop.back.trans hz) hq, fun g => hg (hop.ginv g)⟩
end
end Mine
namespace Mine
open PySem PySem.W PyProof.Rows PySem.Calls PySem.Spec PySem.SeqAt
noncomputable def PutReq (S Z : TS) (x : MV) (P : MV → Prop) : Prop :=
 (x = bv → Out S Z P) ∧ (∀ o, x = ov o → Kept S Z P o) ∧ ∀ k, x = sv k → (∀ v, P v → insT Z k v) ∧ (goneT S k → Out S Z P)
theorem PutReq.up {S S₁ Z Z' : TS} {x : MV} {P : MV → Prop} (h : PutReq S₁ Z x P) (hs : Sub S S₁) (hz : Sub Z Z') : PutReq S Z' x P := by
 refine ⟨fun e => (h.1 e).mono hs hz fun _ q => q, fun o e v hv => ?_, fun k e => ⟨fun v hv => hz.ins _ _ ((h.2.2 k e).1 v hv), fun g => ((h.2.2 k e).2 (hs.gone _ g)).mono hs hz fun _ q => q⟩⟩
 obtain ⟨a, b⟩ := h.2.1 o e v (hv.mono hs fun _ q => q)
 exact ⟨fun k q => (a k q).mono hs hz fun _ q => q, hz.kept _ _ b⟩
section
variable {S S' Z : TS} {r : Int} {k l : Nat} {v : MV} {m : Nat} {P : MV → Prop}
theorem put_ins_eq (W : TOK S) (hl : (k, l) ∈ S.inside) (j : Nat) (u : MV) : insT (S.put l (addM (S.T l) v)) j u ↔ insT S j u ∨ (j = k ∧ u = v) := by
 constructor
 ·rintro ⟨l', a, b⟩
  have a' : (j, l') ∈ S.inside := a
  rcases put_T.mp b with b | ⟨rfl, rfl⟩
  ·exact .inl ⟨l', a', b⟩
  ·exact .inr ⟨ins_uniq W a' hl, rfl⟩
 ·rintro (⟨l', a, b⟩ | ⟨rfl, rfl⟩)
  ·exact ⟨l', a, put_T.mpr (.inl b)⟩
  ·exact ⟨l, hl, put_T.mpr (.inr ⟨rfl, rfl⟩)⟩
theorem put_ins (W : TOK S) (hl : (k, l) ∈ S.inside) (hz : Sub S Z) (h : insT Z k v) : Sub (S.put l (addM (S.T l) v)) Z := by
 obtain ⟨p1, p2, p3, p4, p5, p6, p7⟩ := tab_apart W
 have q7 := p7 l (.inr (List.mem_map.mpr ⟨_, hl, rfl⟩))
 refine ⟨fun q u ⟨l', a, b⟩ => ?_, fun q u hq => ?_, fun j q => ?_, fun j q => ?_, fun j q => ?_, fun i' o' q => ?_⟩
 ·rcases put_T.mp b with b | ⟨rfl, _⟩
  ·exact hz.held q u ⟨l', a, b⟩
  ·exact (held_ins W a hl).elim
 ·rcases (put_ins_eq W hl q u).mp hq with hq | ⟨rfl, rfl⟩
  ·exact hz.ins q u hq
  ·exact h
 ·exact hz.gone j ((put_T.mp q).resolve_right fun e => q7.2.1 e.1.symm)
 ·exact hz.site j ((put_T.mp q).resolve_right fun e => q7.1 e.1.symm)
 ·exact hz.leak j ((put_T.mp q).resolve_right fun e => q7.2.2.1 e.1.symm)
 ·exact hz.kept i' o' ((put_T.mp q).resolve_right fun e => q7.2.2.2 e.1.symm)
theorem put_ins_gone (W : TOK S) (hl : (k, l) ∈ S.inside) (j : Nat) : goneT (S.put l (addM (S.T l) v)) j ↔ goneT S j := by
 obtain ⟨p1, p2, p3, p4, p5, p6, p7⟩ := tab_apart W
 have q7 := p7 l (.inr (List.mem_map.mpr ⟨_, hl, rfl⟩))
 exact ⟨fun q => (put_T.mp q).resolve_right fun e => q7.2.1 e.1.symm, fun q => put_T.mpr (.inl q)⟩
end
section
variable {C : Cx} {n : Nat} {σ₀ σ σ' : MH} {L : FL} {S S' : TS} {t d w k l : Nat} {v x : MV} {ρ : List (Nat × MV)} {fs ts ws us : List MV} {r : Int} {e o : IE}
theorem fill_site (H : L1 C) (W : FlowAt σ L S) (ht : LRow σ t ts) (hk : k ∈ [48, 53, 59, 76]) (h199 : alook ρ 199 = some (.inst 208 L.f)) (h222 : alook ρ 222 = some (.loc t)) (he : Ev C (n + 2) e ρ σ (.str k) σ) :
  E5 fun l σ₁ ρ' σ' S' => N6 (Ev C (n + 2) (.meth (.attr (.var 199) 104) 201 [e, .dict [] []]) ρ σ (.loc l) σ₁) (X1 C (n + 2) (.for (.v 221) (.var 222) noteBody) (aset ρ 101 (.loc l)) σ₁ .next ρ' σ') (FlowAt σ' L S') (Kp (own L S) σ σ') (AddI σ.length S S' k (· ∈ ts)) ((∀ j, j ≠ 101 → j ≠ 221 → alook ρ' j = alook ρ j)) := by
 obtain ⟨l, σ₁, S₁, hev, W₁, K₁, hop, hl⟩ := inside_open (n := n + 1) (ρ := ρ) (e := e) (o := .attr (.var 199) 104) H W hk he (ev_inside H W h199)
 have hto := W.list_off ht.1
 have ht1 : σ₁[t]? = some (.list ts) := K₁.keep _ _ hto ht.1
 have hto1 := W₁.list_off ht1
 let J : List MV → List (Nat × MV) → MH → Prop := fun rem ρ' σ' => E2 fun done S' => N9 (ts = done ++ rem) (FlowAt σ' L S') (Kp (own L S₁) σ₁ σ') (Same S₁ S') ((∀ Z, Sub S₁ Z → (∀ v ∈ ts, insT Z k v) → Sub S' Z)) ((∀ j, goneT S' j ↔ goneT S₁ j)) ((∀ j v, insT S' j v ↔ insT S₁ j v ∨ (j = k ∧ v ∈ done))) (alook ρ' 101 = some (.loc l)) ((∀ j, j ≠ 101 → j ≠ 221 → alook ρ' j = alook ρ j))
 obtain ⟨ρ', σ', hlp, done, S', e', W', K', hs, hleast, hg, hi, _, hρ⟩ : E2 fun ρ' σ' => Loop C (n + 2) (.v 221) noteBody (fun σ' => σ'[t]? = some (.list ts)) ts (aset ρ 101 (.loc l)) σ₁ .next ρ' σ' ∧ J [] ρ' σ' := by
  refine Loop.inv J ?_ ?_ ts _ σ₁ ⟨[], S₁, rfl, W₁, Kp.refl .., Same.refl _, fun Z hz _ => hz, fun _ => Iff.rfl, by simp, alook_aset_same .., fun j h1 _ => alook_aset_ne _ _ h1⟩
  ·rintro y rem ρ₁ σ₂ ⟨done, S₂, e', W₂, K₂, hs, hleast, hg, hi, h2, hρ⟩
   refine ⟨K₂.keep _ _ hto1 ht1, ?_⟩
   have hl2 : (k, l) ∈ S₂.inside := hs.inside ▸ hl
   have hy : TokOk y := ht.2 y (by rw [e']; simp)
   obtain ⟨σ₃, hc, W₃, K₃⟩ := note_flow (n := n) (t := l) (k := y) H W₂ (.inl ⟨.inr (List.mem_map.mpr ⟨_, hl2, rfl⟩), hy⟩)
   rw [hs.own] at K₃
   have a199 : alook (aset ρ₁ 221 y) 199 = some (.inst 208 L.f) := by rw [alook_aset_ne _ _ (by decide), hρ 199 (by decide) (by decide)]; exact h199
   have a101 : alook (aset ρ₁ 221 y) 101 = some (.loc l) := look_ne h2 (by decide)
   refine ⟨_, .next, _, σ₃, rfl, .cons (.expr (ev_meth H W₂ a199 (by decide) (me_EscapeFlow_note H) (.cons (.var a101) (.cons (.var (alook_aset_same ..)) .nil)) hc)) .nil, .inl rfl, done ++ [y], _, by rw [e']; simp, W₃, K₂.trans' K₃, hs.trans (Same.put ..), fun Z hz hq => put_ins W₂.ok hl2 (hleast Z hz hq) (hq y (by rw [e']; simp)),
    fun j => (put_ins_gone W₂.ok hl2 j).trans (hg j), fun j v => ?_, a101, fun j h1 h2 => by rw [alook_aset_ne _ _ h2, hρ j h1 h2]⟩
   rw [put_ins_eq W₂.ok hl2, hi]
   simp only [List.mem_append, List.mem_singleton]
   constructor
   ·rintro ((h | ⟨h1, h2⟩) | ⟨h1, h2⟩)
    ·exact .inl h
    ·exact .inr ⟨h1, .inl h2⟩
    ·exact .inr ⟨h1, .inr h2⟩
   ·rintro (h | ⟨h1, h2 | h2⟩)
    ·exact .inl (.inl h)
    ·exact .inl (.inr ⟨h1, h2⟩)
    ·exact .inr ⟨h1, h2⟩
  ·rintro ρ₁ σ₂ ⟨done, S₂, e', W₂, K₂, _⟩
   exact K₂.keep _ _ hto1 ht1
 rw [List.append_nil] at e'
 subst e'
 have hit : ItEv C (n + 2) (.var 222) (aset ρ 101 (.loc l)) σ₁ ts (fun σ' => σ'[t]? = some (.list ts)) σ₁ := .of (.var (look_ne h222 (by decide))) (.list ht1)
 exact ⟨l, σ₁, ρ', σ', S', hev, .for hit hlp, W', chain_Kp K₁ K' hop.grew (Nat.le_refl _), ⟨hop.grew.trans hs.grew K₁.len, fun v hv => (hi k v).mpr (.inr ⟨rfl, hv⟩), fun Z hz hq => hleast Z (hop.back.trans hz) hq,
  fun j => (hg j).trans ⟨hop.back.gone j, hop.grew.sub.gone j⟩, fun j v => (hi j v).trans (or_congr_left ⟨hop.back.ins j v, hop.grew.sub.ins j v⟩)⟩, hρ⟩
end
end Mine
namespace Mine
open PySem PySem.W PyProof.Rows PySem.Calls PySem.Spec PySem.SeqAt
structure Does (m : Nat) (S S' : TS) (R : TS → TS → Prop) : Prop where
 grew : Grew m S S'
 req : R S S'
 least : ∀ Z, Sub S Z → R Z Z → Sub S' Z
 ginv : GInv S → GInv S'
noncomputable abbrev putBody : List IS := [
  .ite (.cmp .Eq (.var 217) (.glob 14)) [
   .expr (.meth (.var 199) 120 [.var 222])] [
   .ite (.cmp .Eq (.sub (.var 217) (.lit (.int 0))) (.lit (.str 162))) [
    .expr (.meth (.var 199) 170 [.sub (.var 217) (.lit (.int 1)), .var 222])] [
    .setv 101 (.meth (.attr (.var 199) 104) 201 [.sub (.var 217) (.lit (.int 1)), .dict [] []]),
    .for (.v 221) (.var 222) [
     .expr (.meth (.var 199) 152 [.var 101, .var 221])],
    .ite (.cmp .In (.sub (.var 217) (.lit (.int 1))) (.attr (.var 199) 97)) [
     .expr (.meth (.var 199) 120 [.var 222])] []]]]
section
variable {C : Cx} {n : Nat} {σ₀ σ σ' : MH} {L : FL} {S S' : TS} {t d w k l : Nat} {v x : MV} {ρ : List (Nat × MV)} {fs ts ws us : List MV} {r : Int} {e o : IE}
theorem ov_ne_bv {o : Int} : ov o ≠ bv := by simp [ov, bv]
theorem put_turn (H : L1 C) (W : FlowAt σ L S) (ht : LRow σ t ts) (hlen : ts.length ≤ 100) (h199 : alook ρ 199 = some (.inst 208 L.f)) (h222 : alook ρ 222 = some (.loc t)) (h217 : alook ρ 217 = some x) (hx : TokOk x) :
  E3 fun ρ' σ' S' => N5 (Xs C (n + 5) putBody ρ σ .next ρ' σ') (FlowAt σ' L S') (Kp (own L S) σ σ') (Does σ.length S S' (fun S Z => PutReq S Z x (· ∈ ts))) ((∀ j, j ≠ 101 → j ≠ 221 → alook ρ' j = alook ρ j)) := by
 have hpx := pv_tok hx
 have htest : Tst C (n + 5) (.cmp .Eq (.var 217) (.glob 14)) ρ σ (x.beq bv) σ := .cmp (.var h217) (.glob (gl_BEYOND H)) (Op.eq hpx (by decide))
 have hx' := hx
 cases hx with
 | beyond =>
  rw [MV.beq_refl] at htest
  obtain ⟨σ', S', hc, W', K, hL⟩ := leak_spec (n := n + 1) H W ht hlen
  refine ⟨ρ, σ', S', .cons (.ite_t htest (.cons (.expr (ev_meth H W h199 (by decide) (me_EscapeFlow_leak H) (.cons (.var h222) .nil) hc)) .nil)) .nil, W', K, ⟨hL.same.grew, ⟨fun _ => hL.out, fun o e => absurd e.symm ov_ne_bv, fun k e => absurd e bv_ne_sv⟩, fun Z hz hq => hL.sub W.ok hz (hq.1 rfl), hL.ginv W.ok⟩, fun _ _ _ => rfl⟩
 | @outer j hj =>
  rw [MV.beq_false.mpr ov_ne_bv] at htest
  obtain ⟨σ', S', hc, W', K, hP⟩ := putOut_spec (n := n) H W ht hlen hj
  have h0 : Tst C (n + 5) (.cmp .Eq (.sub (.var 217) (.lit (.int 0))) (.lit (.str 162))) ρ σ true σ := by
   have := Tst.cmp (C := C) (n := n + 5) (ρ := ρ) (σ := σ) (ev_item0 (x := .str 162) (xs := [.int j]) (.var h217)) (.lit (v := .str 162)) (Op.eq (by decide) (by decide))
   rwa [MV.beq_refl] at this
  refine ⟨ρ, σ', S', .cons (.ite_f htest (.cons (.ite_t h0 (.cons (.expr (ev_meth H W h199 (by decide) (me_EscapeFlow_put_out H) (.cons (ev_item1 (.var h217)) (.cons (.var h222) .nil)) hc)) .nil)) .nil)) .nil, W', K, ⟨hP.same.grew, ⟨fun e => absurd e ov_ne_bv, fun o e => by rw [← ov_inj e]; exact hP.req, fun k e => absurd e sv_ne_ov⟩, fun Z hz hq => hP.least Z hz (hq.2.1 j rfl), hP.ginv⟩, fun _ _ _ => rfl⟩
 | @site k hk =>
  rw [MV.beq_false.mpr (Ne.symm bv_ne_sv)] at htest
  have h0 : Tst C (n + 5) (.cmp .Eq (.sub (.var 217) (.lit (.int 0))) (.lit (.str 162))) ρ σ false σ := by
   have := Tst.cmp (C := C) (n := n + 5) (ρ := ρ) (σ := σ) (ev_item0 (x := .str 202) (xs := [.str k]) (.var h217)) (.lit (v := .str 162)) (Op.eq (by decide) (by decide))
   have e : (MV.str 202).beq (.str 162) = false := by decide
   rwa [e] at this
  obtain ⟨l, σ₁, ρ₂, σ₂, S₂, hev, hX, W₂, K₂, hA, hρ⟩ := fill_site (n := n + 3) (e := .sub (.var 217) (.lit (.int 1))) H W ht hk h199 h222 (ev_item1 (.var h217))
  have b199 : alook ρ₂ 199 = some (.inst 208 L.f) := by rw [hρ 199 (by decide) (by decide)]; exact h199
  have b222 : alook ρ₂ 222 = some (.loc t) := by rw [hρ 222 (by decide) (by decide)]; exact h222
  have b217 : alook ρ₂ 217 = some (sv k) := by rw [hρ 217 (by decide) (by decide)]; exact h217
  have ht2 : LRow σ₂ t ts := ⟨K₂.keep _ _ (W.list_off ht.1) ht.1, ht.2⟩
  obtain ⟨eg, hg⟩ := W₂.tab _ (gone_tab S₂)
  have hfit : FitK (S₂.T S₂.gone) (.str k) := .inl ⟨str_atom (site_lt hk), fun x hx => (W₂.ok.gon x hx).atom⟩
  have hin : Tst C (n + 5) (.cmp .In (.sub (.var 217) (.lit (.int 1))) (.attr (.var 199) 97)) ρ₂ σ₂ (hasM (S₂.T S₂.gone) (.str k)) σ₂ :=
   Tst.cmp (ev_item1 (.var b217)) (ev_gone H W₂ b199) (in_tds hg hfit)
  have noreq : ∀ {Z Z' : TS}, (∀ v, v ∈ ts → insT Z' k v) → (goneT Z k → Out Z Z' (· ∈ ts)) → PutReq Z Z' (sv k) (· ∈ ts) := fun h1 h2 =>
   ⟨fun e => absurd e.symm bv_ne_sv, fun o e => absurd e.symm sv_ne_ov, fun k' e => by rw [← sv_inj e]; exact ⟨h1, h2⟩⟩
  by_cases hgone : hasM (S₂.T S₂.gone) (.str k) = true
  ·rw [hgone] at hin
   have hgk : goneT S k := (hA.gone k).mp (hasM_iff.mp hgone)
   obtain ⟨σ₃, S₃, hc, W₃, K₃, hL⟩ := leak_spec (n := n + 1) H W₂ ht2 hlen
   refine ⟨ρ₂, σ₃, S₃, .cons (.ite_f htest (.cons (.ite_f h0 (.cons (.setv hev) (.cons hX (.cons (.ite_t hin (.cons (.expr (ev_meth H W₂ b199 (by decide) (me_EscapeFlow_leak H) (.cons (.var b222) .nil) hc)) .nil)) .nil)))) .nil)) .nil, W₃, chain_Kp K₂ K₃ hA.grew (Nat.le_refl _),
    ⟨hA.grew.trans hL.same.grew K₂.len, noreq (fun v hv => hL.same.sub.ins _ _ (hA.req v hv)) fun _ => hL.out.mono hA.grew.sub (Sub.refl _) fun _ h => h, fun Z hz hq => ?_, fun g j j' h1 h2 => ?_⟩, hρ⟩
   ·have hq' := hq.2.2 k rfl
    exact hL.sub W₂.ok (hA.least Z hz hq'.1) (hq'.2 (hz.gone k hgk))
   ·rw [hL.ins_eq W₂.ok] at h2
    rcases (hL.gone j).mp h1 with h1 | h1
    ·rcases (hA.ins j (sv j')).mp h2 with h3 | ⟨_, h3⟩
     ·exact (hL.gone j').mpr (.inl ((hA.gone j').mpr (g j j' ((hA.gone j).mp h1) h3)))
     ·exact (hL.gone j').mpr (.inr (.base h3))
    ·exact (hL.gone j').mpr (.inr (.step h1 (.ins h2)))
  ·have hng : hasM (S₂.T S₂.gone) (.str k) = false := by simpa using hgone
   rw [hng] at hin
   have hgk : ¬ goneT S k := fun q => hgone (hasM_iff.mpr ((hA.gone k).mpr q))
   refine ⟨ρ₂, σ₂, S₂, .cons (.ite_f htest (.cons (.ite_f h0 (.cons (.setv hev) (.cons hX (.cons (.ite_f hin .nil) .nil)))) .nil)) .nil, W₂, K₂,
    ⟨hA.grew, noreq hA.req fun q => absurd q hgk, fun Z hz hq => hA.least Z hz (hq.2.2 k rfl).1, fun g j j' h1 h2 => ?_⟩, hρ⟩
   have h1' := (hA.gone j).mp h1
   rcases (hA.ins j (sv j')).mp h2 with h3 | ⟨h3, _⟩
   ·exact (hA.gone j').mpr (g j j' h1' h3)
   ·rw [h3] at h1'; exact absurd h1' hgk
theorem put_spec (H : L1 C) (W : FlowAt σ L S) (hu : LRow σ w us) (ht : LRow σ t ts) (hlen : ts.length ≤ 100) :
  E2 fun σ' S' => N4 (CallEv C (n + 6) (.ref 135) [.inst 208 L.f, .loc w, .loc t] σ .none σ') (FlowAt σ' L S') (Kp (own L S) σ σ') (Does σ.length S S' (fun S Z => ∀ x ∈ us, PutReq S Z x (· ∈ ts))) := by
 let ρ₀ : List (Nat × MV) := [(199, .inst 208 L.f), (218, .loc w), (222, .loc t)]
 have hto := W.list_off ht.1
 have huo := W.list_off hu.1
 let J : List MV → List (Nat × MV) → MH → Prop := fun rem ρ' σ' => E2 fun done S' => N9 (us = done ++ rem) (FlowAt σ' L S') (Kp (own L S) σ σ') (Grew σ.length S S') ((∀ x ∈ done, PutReq S S' x (· ∈ ts))) ((∀ Z, Sub S Z → (∀ x ∈ us, PutReq Z Z x (· ∈ ts)) → Sub S' Z)) ((GInv S → GInv S')) (alook ρ' 199 = some (.inst 208 L.f)) (alook ρ' 222 = some (.loc t))
 obtain ⟨ρ', σ', hlp, done, S', e', W', K', hgr, hreq, hleast, hg, _⟩ : E2 fun ρ' σ' => Loop C (n + 5) (.v 217) putBody (fun σ' => σ'[w]? = some (.list us)) us ρ₀ σ .next ρ' σ' ∧ J [] ρ' σ' := by
  refine Loop.inv J ?_ ?_ us ρ₀ σ ⟨[], S, rfl, W, Kp.refl .., Grew.refl .., by simp, fun Z hz _ => hz, id, rfl, rfl⟩
  ·rintro y rem ρ₁ σ₂ ⟨done, S₂, e', W₂, K₂, hgr, hreq, hleast, hg, h1, h2⟩
   refine ⟨K₂.keep _ _ huo hu.1, ?_⟩
   obtain ⟨ρ₃, σ₃, S₃, hX, W₃, K₃, hD, hρ⟩ := put_turn (n := n) (ρ := aset ρ₁ 217 y) (x := y) H W₂ ⟨K₂.keep _ _ hto ht.1, ht.2⟩ hlen (look_ne h1 (by decide)) (look_ne h2 (by decide)) (alook_aset_same ..) (hu.2 y (by rw [e']; simp))
   refine ⟨_, .next, ρ₃, σ₃, rfl, hX, .inl rfl, done ++ [y], S₃, by rw [e']; simp, W₃, chain_Kp K₂ K₃ hgr (Nat.le_refl _), hgr.trans hD.grew K₂.len, fun x hx => ?_, fun Z hz hq => hD.least Z (hleast Z hz hq) (hq y (by rw [e']; simp)), fun g => hD.ginv (hg g), by rw [hρ 199 (by decide) (by decide), alook_aset_ne _ _ (by decide)]; exact h1, by rw [hρ 222 (by decide) (by decide), alook_aset_ne _ _ (by decide)]; exact h2⟩
   rcases List.mem_append.mp hx with hx | hx
   ·exact (hreq x hx).up (Sub.refl S) hD.grew.sub
   ·simp at hx; subst hx
    exact hD.req.up hgr.sub (Sub.refl _)
  ·rintro ρ₁ σ₂ ⟨done, S₂, e', W₂, K₂, _⟩
   exact K₂.keep _ _ huo hu.1
 rw [List.append_nil] at e'
 subst e'
 exact ⟨σ', S', .fn (fn_EscapeFlow_put H) (.cons (.for (.of (.var rfl) (.list hu.1)) hlp) .nil) (.inr ⟨rfl, rfl⟩), W', K', hgr, hreq, hleast, hg⟩
end
end Mine
namespace Mine
open PySem PySem.W PyProof.Rows PySem.Calls PySem.Spec PySem.SeqAt
section
variable {C : Cx} {n : Nat} {σ₀ σ σ' : MH} {L : FL} {S S' Z : TS} {t d w k l : Nat} {v x : MV} {ρ : List (Nat × MV)} {fs ts ws us : List MV} {r : Int} {e o : IE}
theorem put_site (W : TOK S) (hz : Sub S Z) (h : siteT Z k) : Sub (S.put S.sites (addM (S.T S.sites) (.str k))) Z := by
 obtain ⟨p1, p2, p3, p4, p5, p6, p7⟩ := tab_apart W
 refine ⟨fun q u ⟨l', a, b⟩ => ?_, fun q u ⟨l', a, b⟩ => ?_, fun j q => ?_, fun j q => ?_, fun j q => ?_, fun i' o' q => ?_⟩
 ·have a' : (q, l') ∈ S.held := a
  exact hz.held q u ⟨l', a', (put_T.mp b).resolve_right fun e => (p7 l' (.inl (List.mem_map.mpr ⟨_, a', rfl⟩))).1 e.1⟩
 ·have a' : (q, l') ∈ S.inside := a
  exact hz.ins q u ⟨l', a', (put_T.mp b).resolve_right fun e => (p7 l' (.inr (List.mem_map.mpr ⟨_, a', rfl⟩))).1 e.1⟩
 ·exact hz.gone j ((put_T.mp q).resolve_right fun e => p1 e.1.symm)
 ·rcases put_T.mp q with q | ⟨_, q⟩
  ·exact hz.site j q
  ·cases q; exact h
 ·exact hz.leak j ((put_T.mp q).resolve_right fun e => p2 e.1.symm)
 ·exact hz.kept i' o' ((put_T.mp q).resolve_right fun e => p3 e.1.symm)
theorem put_site_ginv (W : TOK S) (g : GInv S) : GInv (S.put S.sites (addM (S.T S.sites) x)) := by
 obtain ⟨p1, p2, p3, p4, p5, p6, p7⟩ := tab_apart W
 intro k k' h1 ⟨l', a, b⟩
 have a' : (k, l') ∈ S.inside := a
 have h1' : goneT S k := (put_T.mp h1).resolve_right fun e => p1 e.1.symm
 have b' : sv k' ∈ S.T l' := (put_T.mp b).resolve_right fun e => (p7 l' (.inr (List.mem_map.mpr ⟨_, a', rfl⟩))).1 e.1
 exact put_T.mpr (.inl (g k k' h1' ⟨l', a', b'⟩))
theorem make_spec (H : L1 C) (W : FlowAt σ L S) (hr : 0 ≤ r ∧ r < 6) (hk : k ∈ [48, 53, 59, 76]) :
  E2 fun σ' S' => N4 (CallEv C (n + 4) (.ref 121) [.inst 208 L.f, .int r, .str k] σ .none σ') (FlowAt σ' L S') (Kp (own L S) σ σ') (Does σ.length S S' (fun _ Z => siteT Z k ∧ heldT Z r (sv k))) := by
 let ρ₀ : List (Nat × MV) := [(199, .inst 208 L.f), (177, .int r), (202, .str k)]
 have hsame : Same S (S.put S.sites (addM (S.T S.sites) (.str k))) := Same.put ..
 obtain ⟨σ₁, hc₁, W₁, K₁⟩ := note_flow (n := n + 1) (t := S.sites) (k := .str k) H W (.inr (.inl ⟨rfl, k, hk, rfl⟩))
 have K₂ : Kp [] σ₁ (σ₁ ++ [.list [sv k]]) := Kp.new ..
 have W₂ := W₁.keep K₂
 have ht : LRow (σ₁ ++ [.list [sv k]]) σ₁.length [sv k] := ⟨get_new .., fun v hv => by simp at hv; subst hv; exact .site hk⟩
 obtain ⟨σ₃, S₃, hc₃, W₃, K₃, hA⟩ := give_spec (n := n) H W₂ ht hr
 have hl : Ev C (n + 3) (.list [.tup [.lit (.str 202), .var 202]]) ρ₀ σ₁ (.loc σ₁.length) (σ₁ ++ [.list [sv k]]) :=
  Ev.list (.cons (Ev.tup (.cons .lit (.cons (.var rfl) .nil))) .nil)
 refine ⟨σ₃, S₃, .fn (fn_EscapeFlow_make H) (.cons (.expr (ev_meth H W rfl (by decide) (me_EscapeFlow_note H) (.cons (ev_sites H W rfl) (.cons (.var rfl) .nil)) hc₁)) (.cons (.expr (ev_meth H W₁ rfl (by decide) (me_EscapeFlow_give H) (.cons (.var rfl) (.cons hl .nil)) hc₃)) .nil)) (.inr ⟨rfl, rfl⟩), W₃, ?_, ?_⟩
 ·exact chain_Kp (m := σ.length) (K₁.trans' (K₂.up)) K₃ hsame.grew (Nat.le_refl _)
 ·refine ⟨hsame.grew.trans hA.grew (by have := K₁.len; simp; lia), ⟨hA.grew.sub.site k (put_T.mpr (.inr ⟨rfl, rfl⟩)), hA.req _ (by simp)⟩, fun Z hz hq => hA.least Z (put_site W.ok hz hq.1) fun v hv => by simp at hv; subst hv; exact hq.2, fun g => hA.ginv (put_site_ginv W.ok g)⟩
end
end Mine
namespace Mine
open PySem PySem.W PyProof.Rows PySem.Calls PySem.Spec PySem.SeqAt
section
variable {C : Cx} {n : Nat} {σ₀ σ σ' : MH} {L : FL} {S S' Z : TS} {t d w k l : Nat} {v x : MV} {ρ : List (Nat × MV)} {fs ts ws us : List MV} {r : Int} {e o : IE}
theorem held_get (W : FlowAt σ L S) (he : Ev C (n + 1) e ρ σ (.int r) σ) {o : IE} (ho : Ev C (n + 1) o ρ σ (.loc L.lh) σ) :
  E3 fun l ep ks => N5 (Ev C (n + 1) (.meth o 93 [e, .dict [] []]) ρ σ (.loc l) (σ ++ [.dict 0 []])) ((σ ++ [.dict 0 []])[l]? = some (.dict ep (tds ks))) (ks.Nodup) ((∀ v, v ∈ ks ↔ heldT S r v)) ((l ∈ S.tabs ∨ σ.length ≤ l)) := by
 obtain ⟨ep, hd⟩ := W.held
 have hd' : (σ ++ [.dict 0 []])[L.lh]? = some (.dict ep (S.held.map fun e => (.int e.1, .loc e.2))) := (Kp.new [] σ _).get hd
 have hfit : Fits (S.held.map fun e => (MV.int e.1, MV.loc e.2)) (.int r) := .inl ⟨⟨_, rfl⟩, fun e he => by
  obtain ⟨q, hq, rfl⟩ := List.mem_map.mp he
  exact ⟨_, rfl⟩⟩
 have hget := CallEv.get2 (C := C) (n := n) (w := .loc σ.length) hd' hfit
 rw [dget_ints] at hget
 have hmeth : ∀ {w : MV}, CallEv C (n + 1) (.builtin "dict.get") [.loc L.lh, .int r, .loc σ.length] (σ ++ [.dict 0 []]) w (σ ++ [.dict 0 []]) → Ev C (n + 1) (.meth o 93 [e, .dict [] []]) ρ σ w (σ ++ [.dict 0 []]) := fun h =>
  Ev.methB ho (kind_dict hd) bm_get (ha := .cons he (.cons .dict0 .nil)) (hq := h)
 cases hf : S.held.find? (fun e => e.1 == r) with
 | none =>
  rw [hf] at hget
  refine ⟨σ.length, 0, [], hmeth hget, get_new _ _, by simp, fun v => ⟨fun h => by simp at h, ?_⟩, .inr (Nat.le_refl _)⟩
  rintro ⟨l, h1, _⟩
  rw [find_key W.ok.keysH h1] at hf; cases hf
 | some p =>
  rw [hf] at hget
  have hp := List.mem_of_find?_eq_some hf
  have hpk : p.1 = r := by have := List.find?_some hf; simpa using this
  obtain ⟨p1, l⟩ := p
  simp only at hpk
  subst hpk
  obtain ⟨ep', hl⟩ := W.tab l (held_tab hp)
  refine ⟨l, ep', S.T l, hmeth hget, (Kp.new [] σ _).get hl, W.ok.rows l (held_tab hp), fun v => ⟨fun h => ⟨l, hp, h⟩, ?_⟩, .inl (held_tab hp)⟩
  rintro ⟨l', h1, h2⟩
  have := find_key W.ok.keysH h1
  rw [hf] at this
  cases this; exact h2
theorem heldT_ok (W : TOK S) (h : heldT S r v) : TokOk v := by
 obtain ⟨l, h1, h2⟩ := h
 exact W.toks l (.inl (List.mem_map.mpr ⟨_, h1, rfl⟩)) v h2
theorem tokens_reg (H : L1 C) (W : FlowAt σ L S) :
  E3 fun σ' k zs => N6 (CallEv C (n + 2) (.ref 79) [.inst 208 L.f, .tup [.str 176, .int r]] σ (.loc k) σ') (Kp [] σ σ') (σ.length ≤ k) (LRow σ' k zs) (zs.Nodup) (∀ v, v ∈ zs ↔ heldT S r v) := by
 let ρ₀ : List (Nat × MV) := [(199, .inst 208 L.f), (158, .tup [.str 176, .int r])]
 have hv : Ev C (n + 1) (.var 158) ρ₀ σ (.tup [.str 176, .int r]) σ := .var rfl
 obtain ⟨l, ep, ks, hev, hl, hn, hm, _⟩ := held_get (C := C) (n := n) (ρ := ρ₀) (e := .sub (.var 158) (.lit (.int 1))) (o := .attr (.var 199) 101) W (ev_item1 hv) (ev_held H W rfl)
 have hlist : CallEv C (n + 1) (.type "list") [.loc l] (σ ++ [.dict 0 []]) (.loc (σ ++ [MO.dict 0 []]).length) ((σ ++ [.dict 0 []]) ++ [.list ks]) := by
  have := CallEv.listD (C := C) (n := n + 1) hl
  rwa [keys_tds] at this
 have h1 : Tst C (n + 1) (.cmp .Is (.var 158) (.lit .none)) ρ₀ σ false σ := .cmp (.var rfl) .lit (Op.isNone (by simp))
 have h2 : Tst C (n + 1) (.cmp .Eq (.sub (.var 158) (.lit (.int 0))) (.lit (.str 176))) ρ₀ σ true σ := by
  have := Tst.cmp (C := C) (n := n + 1) (ρ := ρ₀) (σ := σ) (ev_item0 (x := .str 176) (xs := [.int r]) hv) (.lit (v := .str 176)) (Op.eq (by decide) (by decide))
  rwa [MV.beq_refl] at this
 refine ⟨_, _, ks, .fn (fn_EscapeFlow_tokens_of H) (.cons (.ite_f h1 .nil) (.out (.ite_t h2 (.out (.ret (.call (gl_list H) (.inl fun _ q => by cases q) (.cons hev .nil) hlist)) (by simp))) (by simp))) (.inl rfl), (Kp.new ..).trans' (Kp.new ..), by simp, ⟨get_new _ _, fun v hv => heldT_ok W.ok ((hm v).mp hv)⟩, hn, hm⟩
theorem tokens_none (H : L1 C) : CallEv C (n + 2) (.ref 79) [.inst 208 w, .none] σ (.loc σ.length) (σ ++ [.list []]) := by
 have h1 : Tst C (n + 1) (.cmp .Is (.var 158) (.lit .none)) [(199, .inst 208 w), (158, .none)] σ true σ := .cmp (.var rfl) .lit (Op.isNone (by simp))
 exact .fn (fn_EscapeFlow_tokens_of H) (.out (.ite_t h1 (.out (.ret (.list .nil)) (by simp))) (by simp)) (.inl rfl)
end
end Mine
namespace Mine
open PySem PySem.W PyProof.Rows PySem.Calls PySem.Spec PySem.SeqAt
section
variable {C : Cx} {n Cl a : Nat} {σ σ' xs ys : MH} {v : MV} {ρ : List (Nat × MV)} {as : List (Nat × MV)} {e : IE}
theorem seta_at (he : Ev C n e ρ (σ ++ .ns as :: xs) v (σ ++ .ns as :: ys)) (h : alook ρ 199 = some (.inst Cl σ.length)) (hC : clsB C.K Cl = true) (hat : attrB C.K Cl a = true) :
  X1 C n (.seta (.var 199) a e) ρ (σ ++ .ns as :: xs) .next ρ (σ ++ .ns (aset as a v) :: ys) := by
 have := X1.seta (a := a) he (.var h) (m := σ.length) (as := as) (by simp) hC hat
 rwa [List.set_append_right _ _ (Nat.le_refl _), Nat.sub_self] at this
theorem setd_at (h : alook ρ 199 = some (.inst Cl σ.length)) (hC : clsB C.K Cl = true) (hat : attrB C.K Cl a = true) :
  X1 C n (.seta (.var 199) a (.dict [] [])) ρ (σ ++ .ns as :: xs) .next ρ (σ ++ .ns (aset as a (.loc (σ.length + (xs.length + 1)))) :: (xs ++ [.dict 0 []])) := by
 refine seta_at ?_ h hC hat
 have := Ev.dict0 (C := C) (n := n) (ρ := ρ) (σ := σ ++ .ns as :: xs)
 simpa using this
theorem summary_spec (H : L1 C) : CallEv C (n + 2) (.ref 54) [] σ (.inst 54 σ.length)
  (σ ++ .ns [(121, .loc (σ.length + 1)), (113, .loc (σ.length + 2)), (225, .loc (σ.length + 3))] :: [.dict 0 [], .dict 0 [], .dict 0 []]) := by
 refine .make (cl_Summary H) (in_Summary_init H).1 (in_Summary_init H).2 (.fnD (fn_Summary_init H) rfl (ds := []) (fun _ _ => by first | exact rfl | exact ⟨_, rfl⟩) (.cons (setd_at rfl (cl_Summary H) (at_Summary_leaks H)) (.cons (setd_at rfl (cl_Summary H) (at_Summary_kept H)) (.cons (setd_at rfl (cl_Summary H) (at_Summary_told H)) .nil))) (.inr ⟨rfl, rfl⟩))
theorem code_spec (H : L1 C) {x y : MV} {t : Nat} {ts : List MV} (ht : σ[t]? = some (.list ts)) : CallEv C (n + 2) (.ref 249) [x, .int 2, .loc t, y] σ (.inst 249 σ.length)
  (σ ++ .ns [(114, x), (164, .int 2), (178, .loc (σ.length + 1)), (56, y), (62, .int 0), (179, .int 0), (174, .none)] :: [.list ts]) := by
 refine .make (cl_Code H) (in_Code_init H).1 (in_Code_init H).2 (.fnD (fn_Code_init H) rfl (ds := [.int 0, .int 0, .none]) (fun _ _ => dv_Code_init H) (.cons (seta_at (.var rfl) rfl (cl_Code H) (at_Code_key H)) (.cons (seta_at (.var rfl) rfl (cl_Code H) (at_Code_params H)) (.cons (seta_at (v := .loc (σ.length + 1)) (ys := [.list ts]) ?_ rfl (cl_Code H) (at_Code_registers H))
  (.cons (seta_at (.var rfl) rfl (cl_Code H) (at_Code_blocks H)) (.cons (seta_at (.var rfl) rfl (cl_Code H) (at_Code_captured H)) (.cons (seta_at (.var rfl) rfl (cl_Code H) (at_Code_results H)) (.cons (seta_at (.var rfl) rfl (cl_Code H) (at_Code_recovery H)) .nil))))))) (.inr ⟨rfl, rfl⟩))
 have hl : ∀ o : MO, (σ ++ [o])[t]? = some (.list ts) := fun o => by rw [List.getElem?_append_left (List.getElem?_eq_some_iff.mp ht).1]; exact ht
 have h1 : ∀ o : MO, CallEv C (n + 0) (.type "list") [.loc t] (σ ++ [o]) (.loc (σ.length + 1)) (σ ++ o :: [.list ts]) := fun o => by
  have := CallEv.listL (C := C) (n := n) (hl o)
  simpa using this
 exact .call (gl_list H) (.inl fun _ q => by cases q) (.cons (.var rfl) .nil) (h1 _)
end
end Mine
namespace Mine
open PySem PySem.W PyProof.Rows PySem.Calls PySem.Spec PySem.SeqAt
section
variable {C : Cx} {n c d : Nat} {σ σ' xs ys : MH} {v : MV} {ρ : List (Nat × MV)} {as cs : List (Nat × MV)} {e : IE}
noncomputable def flowNs (c d s : Nat) : List (Nat × MV) := [(71, .inst 249 c), (213, .loc d), (101, .loc (s + 1)), (104, .loc (s + 2)), (203, .loc (s + 3)), (97, .loc (s + 4)), (214, .inst 54 (s + 5)), (108, .bool false)]
noncomputable def flowMid (c d s : Nat) (ep : Nat) (es : List (MV × MV)) (more : MH) : MH :=
 .ns (flowNs c d s) :: .dict ep es :: .dict 0 [] :: .dict 0 [] :: .dict 0 [] :: .ns [(121, .loc (s + 6)), (113, .loc (s + 7)), (225, .loc (s + 8))] :: .dict 0 [] :: .dict 0 [] :: .dict 0 [] :: more
noncomputable abbrev flowLoop : List IS := [.seti (.attr (.var 199) 101) (.var 177) (.dict [.tup [.lit (.str 162), .var 177]] [.lit (.bool true)])]
theorem set_off (σ l : MH) (k : Nat) (o : MO) : (σ ++ l).set (σ.length + k) o = σ ++ l.set k o := by
 rw [List.set_append_right _ _ (Nat.le_add_right ..), Nat.add_sub_cancel_left]
theorem get_off (σ l : MH) (k : Nat) : (σ ++ l)[σ.length + k]? = l[k]? := by
 rw [List.getElem?_append_right (Nat.le_add_right ..), Nat.add_sub_cancel_left]
theorem flow_turn (H : L1 C) {ep r : Nat} {es : List (MV × MV)} {more : MH} (h199 : alook ρ 199 = some (.inst 208 σ.length)) (h177 : alook ρ 177 = some (.int r)) (hf : Fits es (.int r)) (hn : dhas es (.int r) = false) (hz : es.length < 100) :
  Xs C (n + 1) flowLoop ρ (σ ++ flowMid c d σ.length ep es more) .next ρ
   (σ ++ flowMid c d σ.length (ep + 1) (es ++ [(.int r, .loc (σ.length + (9 + more.length)))]) (more ++ [.dict 1 [(.tup [.str 162, .int r], .bool true)]])) := by
 have hlen : (σ ++ flowMid c d σ.length ep es more).length = σ.length + (9 + more.length) := by simp [flowMid]; lia
 have hd : Ev C (n + 1) (.dict [.tup [.lit (.str 162), .var 177]] [.lit (.bool true)]) ρ (σ ++ flowMid c d σ.length ep es more) (.loc (σ.length + (9 + more.length))) (σ ++ flowMid c d σ.length ep es (more ++ [.dict 1 [(.tup [.str 162, .int r], .bool true)]])) := by
  have := Ev.dict (C := C) (n := n + 1) (ρ := ρ) (σ := σ ++ flowMid c d σ.length ep es more) (σ₁ := (σ ++ flowMid c d σ.length ep es more) ++ [.dict 0 []]) (ks := [.tup [.lit (.str 162), .var 177]]) (vs := [.lit (.bool true)])
   (.cons (Ev.tup (.cons .lit (.cons (.var h177) .nil))) .lit .nil) (by simp) (.cons (.inr ⟨?_, by simp⟩) (by rw [sizeLine_eq]; simp) .nil)
  ·rw [hlen] at this
   have e : ((σ ++ flowMid c d σ.length ep es more) ++ [MO.dict 0 []]).set (σ.length + (9 + more.length)) (dsto 0 [] (.tup [.str 162, .int r]) (.bool true)) = σ ++ flowMid c d σ.length ep es (more ++ [.dict 1 [(.tup [.str 162, .int r], .bool true)]]) := by
    rw [List.append_assoc, set_off]
    congr 1
    have : (flowMid c d σ.length ep es more).length = 9 + more.length := by simp [flowMid]; lia
    rw [← this, List.set_append_right _ _ (Nat.le_refl _)]
    simp [flowMid, dsto, dhas]
   rw [e] at this
   exact this
  ·exact flatB_iff rfl
 refine .cons (.seti hd (.attr (.var h199) (m := σ.length) (by simp [flowMid]; rfl) rfl (cl_EscapeFlow H) (at_EscapeFlow_held H)) (.var h177) ?_) .nil
 have hs := OpU.setD (C := C) (n := n) (i := σ.length + 1) (σ := σ ++ flowMid c d σ.length ep es (more ++ [.dict 1 [(.tup [.str 162, .int r], .bool true)]])) (v := .loc (σ.length + (9 + more.length))) (by rw [get_off]; rfl) hf (by rw [sizeLine_eq]; lia)
 rw [set_off] at hs
 unfold dsto at hs
 rw [hn] at hs
 exact hs
theorem flow_spec (H : L1 C) (hc : σ[c]? = some (.ns cs)) (h62 : alook cs 62 = some (.int 0)) (h164 : alook cs 164 = some (.int 2)) :
  CallEv C (n + 4) (.ref 208) [.inst 249 c, .loc d] σ (.inst 208 σ.length)
   (σ ++ flowMid c d σ.length 2 [(.int 0, .loc (σ.length + 9)), (.int 1, .loc (σ.length + 10))] [.dict 1 [(.tup [.str 162, .int 0], .bool true)], .dict 1 [(.tup [.str 162, .int 1], .bool true)]]) := by
 let ρ₀ : List (Nat × MV) := [(199, .inst 208 σ.length), (71, .inst 249 c), (213, .loc d)]
 have l1 := flow_turn (C := C) (n := n + 1) (c := c) (d := d) (σ := σ) (ep := 0) (r := 0) (es := []) (more := []) (ρ := aset ρ₀ 177 (.int 0)) H rfl rfl (.inl ⟨⟨_, rfl⟩, by simp⟩) rfl (by simp)
 have l2 := flow_turn (C := C) (n := n + 1) (c := c) (d := d) (σ := σ) (ep := 1) (r := 1) (es := [(.int 0, .loc (σ.length + 9))]) (more := [.dict 1 [(.tup [.str 162, .int 0], .bool true)]]) (ρ := aset (aset ρ₀ 177 (.int 0)) 177 (.int 1)) H rfl rfl (.inl ⟨⟨_, rfl⟩, fun e he => by simp at he; subst he; exact ⟨_, rfl⟩⟩) rfl (by simp)
 have hlp := Loop.next (t := .v 177) (x := .int 0) (xs := [.int 1]) (dep := fun _ => True) (ρ := ρ₀) (fl := .next) trivial rfl l1 (.inl rfl) (Loop.next (x := .int 1) (xs := []) trivial rfl l2 (.inl rfl) (Loop.nil trivial))
 have hcl : ∀ xs : MH, (σ ++ xs)[c]? = some (.ns cs) := fun xs => by rw [List.getElem?_append_left (List.getElem?_eq_some_iff.mp hc).1]; exact hc
 have hr : ItEv C (n + 2) (.call (.glob 171) [.bin .Add (.attr (.var 71) 62) (.attr (.var 71) 164)]) ρ₀ (σ ++ flowMid c d σ.length 0 [] []) [.int 0, .int 1] (fun _ => True) (σ ++ flowMid c d σ.length 0 [] []) :=
  .range1 (b := 2) (gl_range H) (.cons (.bin (.attr (.var rfl) (hcl _) h62 (cl_Code H) (at_Code_captured H)) (.attr (.var rfl) (hcl _) h164 (cl_Code H) (at_Code_params H)) Op.addI) .nil) (by decide) (by decide)
 refine .make (cl_EscapeFlow H) (in_EscapeFlow_init H).1 (in_EscapeFlow_init H).2 (.fnD (n := n + 2) (fn_EscapeFlow_init H) rfl (ds := []) (fun _ _ => by first | exact rfl | exact ⟨_, rfl⟩) (.cons (seta_at (.var rfl) rfl (cl_EscapeFlow H) (at_EscapeFlow_code H)) (.cons (seta_at (.var rfl) rfl (cl_EscapeFlow H) (at_EscapeFlow_summaries H)) (.cons (setd_at rfl (cl_EscapeFlow H) (at_EscapeFlow_held H)) (.cons (setd_at rfl (cl_EscapeFlow H) (at_EscapeFlow_inside H))
  (.cons (setd_at rfl (cl_EscapeFlow H) (at_EscapeFlow_sites H)) (.cons (setd_at rfl (cl_EscapeFlow H) (at_EscapeFlow_gone H)) (.cons (seta_at (v := .inst 54 (σ.length + 5)) (ys := .dict 0 [] :: .dict 0 [] :: .dict 0 [] :: .dict 0 [] :: .ns [(121, .loc (σ.length + 6)), (113, .loc (σ.length + 7)), (225, .loc (σ.length + 8))] :: [.dict 0 [], .dict 0 [], .dict 0 []]) ?_ rfl (cl_EscapeFlow H) (at_EscapeFlow_summary H)) (.cons (seta_at .lit rfl (cl_EscapeFlow H) (at_EscapeFlow_is_new H))
  (.cons (.for hr hlp) .nil))))))))) (.inr ⟨rfl, rfl⟩))
 have hs : ∀ o : MO, CallEv C (n + 2) (.ref 54) [] (σ ++ o :: [.dict 0 [], .dict 0 [], .dict 0 [], .dict 0 []]) (.inst 54 (σ.length + 5)) (σ ++ o :: .dict 0 [] :: .dict 0 [] :: .dict 0 [] :: .dict 0 [] :: .ns [(121, .loc (σ.length + 6)), (113, .loc (σ.length + 7)), (225, .loc (σ.length + 8))] :: [.dict 0 [], .dict 0 [], .dict 0 []]) := fun o => by
  have := summary_spec (n := n) (σ := σ ++ o :: [.dict 0 [], .dict 0 [], .dict 0 [], .dict 0 []]) H
  simpa using this
 exact .call (gl_Summary H) (.inr (clsOk (cl_Summary H)).keep) .nil (hs _)
end
end Mine
namespace Mine
open PySem PySem.W PyProof.Rows PySem.Calls PySem.Spec PySem.SeqAt
section
variable {C : Cx} {n c d : Nat} {σ σ' xs ys : MH} {v : MV} {ρ : List (Nat × MV)} {as cs : List (Nat × MV)} {e : IE}
noncomputable def freshL (s : Nat) : FL := ⟨s, s + 5, s + 1, s + 2, s + 8⟩
noncomputable def freshS (s : Nat) : TS := { held := [(0, s + 9), (1, s + 10)], inside := [], sites := s + 3, gone := s + 4, leaks := s + 6, kept := s + 7, T := fun x => if x = s + 9 then [ov 0] else if x = s + 10 then [ov 1] else [] }
noncomputable abbrev freshH (σ : MH) (c d : Nat) : MH := σ ++ flowMid c d σ.length 2 [(.int 0, .loc (σ.length + 9)), (.int 1, .loc (σ.length + 10))] [.dict 1 [(.tup [.str 162, .int 0], .bool true)], .dict 1 [(.tup [.str 162, .int 1], .bool true)]]
theorem freshS_tabs (s : Nat) : (freshS s).tabs = [s + 3, s + 4, s + 6, s + 7, s + 9, s + 10] := rfl
theorem fresh_flow : FlowAt (freshH σ c d) (freshL σ.length) (freshS σ.length) := by
 have h9 : (freshS σ.length).T (σ.length + 9) = [ov 0] := by simp [freshS]
 have h10 : (freshS σ.length).T (σ.length + 10) = [ov 1] := by simp [freshS]
 have h0 : ∀ x, x ≠ σ.length + 9 → x ≠ σ.length + 10 → (freshS σ.length).T x = [] := fun x h h' => by simp [freshS, h, h']
 have hs : (freshH σ c d)[σ.length]? = some (.ns (flowNs c d σ.length)) := by have := get_off σ (flowMid c d σ.length 2 [(.int 0, .loc (σ.length + 9)), (.int 1, .loc (σ.length + 10))] [.dict 1 [(.tup [.str 162, .int 0], .bool true)], .dict 1 [(.tup [.str 162, .int 1], .bool true)]]) 0; exact this
 refine ⟨⟨?_, ?_, ?_, ?_, ?_, ?_, ?_, ?_, ?_, ?_, ?_⟩, ⟨_, hs, rfl, rfl, rfl, rfl, rfl⟩, ?_, ⟨_, get_off _ _ 5, rfl, rfl, rfl⟩, ⟨2, get_off _ _ 1⟩, ⟨0, get_off _ _ 2⟩, ?_, ?_⟩
 ·rw [freshS_tabs]; simp
 ·simp [freshS]
 ·simp [freshS]
 ·simp [freshS]
 ·simp [freshS]
 ·intro t ht; rw [freshS_tabs] at ht; simp at ht
  rcases ht with rfl | rfl | rfl | rfl | rfl | rfl
  all_goals simp [freshS]
 ·intro t ht v hv
  simp [freshS] at ht
  rcases ht with rfl | rfl
  ·rw [h9] at hv; simp at hv; subst hv; exact .outer (by simp)
  ·rw [h10] at hv; simp at hv; subst hv; exact .outer (by simp)
 ·intro v hv; simp [freshS] at hv
 ·intro v hv; simp [freshS] at hv
 ·intro v hv; simp [freshS] at hv
 ·intro v hv; simp [freshS] at hv
 ·intro as h a ha
  rw [show (freshH σ c d)[(freshL σ.length).f]? = _ from hs] at h; cases h
  simp at ha
  simp [flowNs, alook, Ne.symm ha.1, Ne.symm ha.2.1, Ne.symm ha.2.2.1, Ne.symm ha.2.2.2.1, Ne.symm ha.2.2.2.2.1, Ne.symm ha.2.2.2.2.2.1, Ne.symm ha.2.2.2.2.2.2.1, Ne.symm ha.2.2.2.2.2.2.2]
 ·intro t ht; rw [freshS_tabs] at ht; simp at ht
  rcases ht with rfl | rfl | rfl | rfl | rfl | rfl
  ·exact ⟨0, by rw [h0 _ (by lia) (by lia)]; exact get_off _ _ 3⟩
  ·exact ⟨0, by rw [h0 _ (by lia) (by lia)]; exact get_off _ _ 4⟩
  ·exact ⟨0, by rw [h0 _ (by lia) (by lia)]; exact get_off _ _ 6⟩
  ·exact ⟨0, by rw [h0 _ (by lia) (by lia)]; exact get_off _ _ 7⟩
  ·exact ⟨1, by rw [h9]; exact get_off _ _ 9⟩
  ·exact ⟨1, by rw [h10]; exact get_off _ _ 10⟩
 ·rw [freshS_tabs]; simp [freshL]
theorem fresh_held {s : Nat} {r : Int} : heldT (freshS s) r v ↔ (r = 0 ∧ v = ov 0) ∨ (r = 1 ∧ v = ov 1) := by
 constructor
 ·rintro ⟨l, h1, h2⟩
  simp [freshS] at h1
  rcases h1 with ⟨rfl, rfl⟩ | ⟨rfl, rfl⟩
  ·simp [freshS] at h2; exact .inl ⟨rfl, h2⟩
  ·simp [freshS] at h2; exact .inr ⟨rfl, h2⟩
 ·rintro (⟨rfl, rfl⟩ | ⟨rfl, rfl⟩)
  ·exact ⟨s + 9, by simp [freshS], by simp [freshS]⟩
  ·exact ⟨s + 10, by simp [freshS], by simp [freshS]⟩
theorem fresh_least {s : Nat} {Z : TS} (h0 : heldT Z 0 (ov 0)) (h1 : heldT Z 1 (ov 1)) : Sub (freshS s) Z := by
 refine ⟨fun r v h => ?_, fun k v ⟨l, a, _⟩ => by simp [freshS] at a, fun k h => ?_, fun k h => ?_, fun o h => ?_, fun i o h => ?_⟩
 ·rcases fresh_held.mp h with ⟨rfl, rfl⟩ | ⟨rfl, rfl⟩
  ·exact h0
  ·exact h1
 all_goals simp [freshS, goneT, siteT, leakT, keptT] at h
theorem fresh_ginv (s : Nat) : GInv (freshS s) := fun k k' h _ => by simp [freshS, goneT] at h
end
end Mine
namespace Mine
open PySem PySem.W PyProof.Rows PySem.Calls PySem.Spec PySem.SeqAt
section
variable {C : Cx} {n c d : Nat} {σ σ' xs ys : MH} {v : MV} {ρ : List (Nat × MV)} {as cs : List (Nat × MV)} {e : IE}
theorem law_flow_spec (H : L1 C) : E3 fun υ c d => N3 (CallEv C (n + 5) (.ref 281) [] σ (.inst 208 υ.length) (freshH υ c d)) (Kp [] σ (freshH υ c d)) (σ.length ≤ υ.length) := by
 let x : MV := .tup [.str 168, .tup [.str 107, .str 107]]
 let y : MV := .tup [.str 180, .tup []]
 let σ₁ : MH := σ ++ [.list [x]]
 let σ₂ : MH := σ₁ ++ [.list [x, x, x, x, x, x]]
 let σ₃ : MH := σ₂ ++ [.list []]
 let σ₄ : MH := σ₃ ++ [.list [.loc σ₂.length, y]]
 let σ₅ : MH := σ₄ ++ [.list [.loc σ₃.length]]
 have e1 : Ev C (n + 4) (.bin .Mult (.list [.tup [.lit (.str 168), .tup [.lit (.str 107), .lit (.str 107)]]]) (.lit (.int 6))) [] σ (.loc σ₁.length) σ₂ :=
  .bin (.list (.cons (Ev.tup (.cons .lit (.cons (Ev.tup (.cons .lit (.cons .lit .nil))) .nil))) .nil)) .lit (Op.mulL (get_new σ _) (by decide) (by decide) (by simp))
 have e2 : Ev C (n + 4) (.list [.list [.list [], .tup [.lit (.str 180), .tup []]]]) [] σ₂ (.loc σ₄.length) σ₅ :=
  .list (.cons (.list (.cons (.list .nil) (.cons (Ev.tup (.cons .lit (.cons (Ev.tup .nil) .nil))) .nil))) .nil)
 have k5 : Kp [] σ₂ σ₅ := ((Kp.new [] σ₂ _).trans' (Kp.new [] σ₃ _)).trans' (Kp.new [] σ₄ _)
 have hl : σ₅[σ₁.length]? = some (.list [x, x, x, x, x, x]) := k5.get (get_new σ₁ _)
 have e3 := code_spec (C := C) (n := n + 2) (σ := σ₅) (x := .str 133) (y := .loc σ₄.length) H hl
 let cs : List (Nat × MV) := [(114, .str 133), (164, .int 2), (178, .loc (σ₅.length + 1)), (56, .loc σ₄.length), (62, .int 0), (179, .int 0), (174, .none)]
 let σ₆ : MH := σ₅ ++ .ns cs :: [.list [x, x, x, x, x, x]]
 let σ₇ : MH := σ₆ ++ [.dict 0 []]
 have hc6 : σ₆[σ₅.length]? = some (.ns cs) := by simp [σ₆]
 have hc : σ₇[σ₅.length]? = some (.ns cs) := (Kp.new [] σ₆ _).get hc6
 have e4 := flow_spec (C := C) (n := n) (d := σ₆.length) H hc rfl rfl
 have hcode : Ev C (n + 4) (.call (.glob 15) [.lit (.str 133), .lit (.int 2), .bin .Mult (.list [.tup [.lit (.str 168), .tup [.lit (.str 107), .lit (.str 107)]]]) (.lit (.int 6)), .list [.list [.list [], .tup [.lit (.str 180), .tup []]]]]) [] σ (.inst 249 σ₅.length) σ₆ :=
  .call (gl_Code H) (.inr (clsOk (cl_Code H)).keep) (.cons .lit (.cons .lit (.cons e1 (.cons e2 .nil)))) e3
 have k7 : Kp [] σ σ₇ := ((((Kp.new [] σ _).trans' (Kp.new [] σ₁ _)).trans' k5).trans' ⟨by simp [σ₆], fun i o _ h => by rw [List.getElem?_append_left (List.getElem?_eq_some_iff.mp h).1]; exact h⟩).trans' (Kp.new [] σ₆ _)
 refine ⟨σ₇, σ₅.length, σ₆.length, .fn (fn_law_flow H) (.out (.ret (.call (gl_EscapeFlow H) (.inr (clsOk (cl_EscapeFlow H)).keep) (.cons hcode (.cons .dict0 .nil)) e4)) (by simp)) (.inl rfl), k7.trans' ⟨by simp [freshH], fun i o _ h => by rw [List.getElem?_append_left (List.getElem?_eq_some_iff.mp h).1]; exact h⟩, k7.len⟩
end
end Mine
namespace Mine
open PySem PySem.W PyProof.Rows PySem.Calls PySem.Spec PySem.SeqAt
section
variable {C : Cx} {n t m : Nat} {σ σ' : MH} {v : MV} {ρ : List (Nat × MV)} {ts ms : List MV}
noncomputable def addAll (ts ms : List MV) : List MV := ms.foldl addM ts
theorem mem_addAll {x : MV} : ∀ {ms ts : List MV}, x ∈ addAll ts ms ↔ x ∈ ts ∨ x ∈ ms
 | [], ts => by simp [addAll]
 | m :: ms, ts => by
  show x ∈ addAll (addM ts m) ms ↔ _
  rw [mem_addAll, mem_addM, List.mem_cons, or_assoc]
theorem addAll_nodup : ∀ {ms ts : List MV}, ts.Nodup → (addAll ts ms).Nodup
 | [], _, h => h
 | m :: ms, ts, h => addAll_nodup (ms := ms) (addM_nodup h)
theorem addAll_prefix : ∀ {ms ts : List MV}, ts <+: addAll ts ms
 | [], ts => List.prefix_refl _
 | m :: ms, ts => addM_prefix.trans (addAll_prefix (ms := ms))
theorem addAll_length : ∀ {ms ts : List MV}, (addAll ts ms).length ≤ ts.length + ms.length
 | [], ts => Nat.le_refl _
 | m :: ms, ts => by
  have := addAll_length (ms := ms) (ts := addM ts m)
  have := addM_length (ks := ts) (k := m)
  show (addAll (addM ts m) ms).length ≤ _
  simp only [List.length_cons]; lia
theorem addAll_append {a b ts : List MV} : addAll ts (a ++ b) = addAll (addAll ts a) b := List.foldl_append ..
theorem pvs_all : ∀ {ws : List MV}, (∀ v ∈ ws, pv v 8 = true) → pvs ws 8 = true
 | [], _ => by simp [pvs]
 | v :: ws, h => by simp only [pvs, Bool.and_eq_true]; exact ⟨h v (by simp), pvs_all fun x hx => h x (by simp [hx])⟩
theorem law_add_spec (H : L1 C) (ht : σ[t]? = some (.list ts)) (hm : σ[m]? = some (.list ms)) (hne : t ≠ m) (h1 : ∀ x ∈ ts, pv x 8 = true) (h2 : ∀ x ∈ ms, pv x 8 = true) (hz : ts.length + ms.length < 1000) :
  CallEv C (n + 2) (.ref 298) [.loc t, .loc m] σ .none (σ.set t (.list (addAll ts ms))) := by
 let ρ₀ : List (Nat × MV) := [(220, .loc t), (146, .loc m)]
 have hlt := (List.getElem?_eq_some_iff.mp ht).1
 obtain ⟨ρ', σ', hlp, done, e', hh, _⟩ : E2 fun ρ' σ' => Loop C (n + 1) (.v 156) [.ite (.cmp .NotIn (.var 156) (.var 220)) [.expr (.meth (.var 220) 49 [.var 156])] []] (fun σ' => σ'[m]? = some (.list ms)) ms ρ₀ σ .next ρ' σ' ∧ ∃ done, N3 (ms = done ++ []) (σ' = σ.set t (.list (addAll ts done))) (alook ρ' 220 = some (.loc t)) := by
  refine Loop.inv (fun rem ρ' σ' => ∃ done, N3 (ms = done ++ rem) (σ' = σ.set t (.list (addAll ts done))) (alook ρ' 220 = some (.loc t))) ?_ ?_ ms ρ₀ σ ⟨[], rfl, ?_, rfl⟩
  ·rintro y rem ρ₁ σ₁ ⟨done, e', rfl, h3⟩
   refine ⟨by rw [List.getElem?_set_ne hne]; exact hm, ?_⟩
   have hthis : (σ.set t (.list (addAll ts done)))[t]? = some (.list (addAll ts done)) := List.getElem?_set_self hlt
   have hy : pv y 8 = true := h2 y (by rw [e']; simp)
   have hall : pvs (addAll ts done) 8 = true := pvs_all fun x hx => by
    rcases mem_addAll.mp hx with h | h
    ·exact h1 x h
    ·exact h2 x (by rw [e']; simp [h])
   have hl : (addAll ts done).length < 1000 := by
    have := addAll_length (ms := done) (ts := ts)
    rw [e'] at hz; simp at hz; lia
   have htest : Tst C (n + 1) (.cmp .NotIn (.var 156) (.var 220)) (aset ρ₁ 156 y) (σ.set t (.list (addAll ts done))) (!hasM (addAll ts done) y) (σ.set t (.list (addAll ts done))) :=
    .cmp (.var (alook_aset_same ..)) (.var (look_ne h3 (by decide))) (Op.notInL hthis hy hall)
   have e2 : addAll ts (done ++ [y]) = addM (addAll ts done) y := by rw [addAll_append]; rfl
   by_cases hk : hasM (addAll ts done) y = true
   ·rw [hk] at htest
    refine ⟨_, .next, _, _, rfl, .cons (.ite_f htest .nil) .nil, .inl rfl, done ++ [y], by rw [e']; simp, ?_, look_ne h3 (by decide)⟩
    rw [e2]; unfold addM; rw [if_pos hk]
   ·have hk' : hasM (addAll ts done) y = false := by simpa using hk
    rw [hk'] at htest
    refine ⟨_, .next, _, _, rfl, .cons (.ite_t htest (.cons (.expr (Ev.methB (.var (look_ne h3 (by decide))) (kind_list hthis) bm_append (ha := .cons (.var (alook_aset_same ..)) .nil) (hq := CallEv.append hthis (by rw [sizeLine_eq]; lia)))) .nil)) .nil, .inl rfl, done ++ [y], by rw [e']; simp, ?_, look_ne h3 (by decide)⟩
    rw [e2, List.set_set]; unfold addM; rw [if_neg hk]
  ·rintro ρ₁ σ₁ ⟨done, e', rfl, h3⟩
   show (σ.set t _)[m]? = _
   rw [List.getElem?_set_ne hne]; exact hm
  ·show σ = σ.set t (.list ts)
   apply List.ext_getElem?
   intro i
   by_cases e : t = i
   ·subst e; rw [List.getElem?_set_self hlt, ht]
   ·rw [List.getElem?_set_ne e]
 rw [List.append_nil] at e'
 subst e'; subst hh
 exact .fn (fn_law_add H) (.cons (.for (.of (.var rfl) (.list hm)) hlp) .nil) (.inr ⟨rfl, rfl⟩)
end
end Mine
namespace Mine
open PySem PySem.W PyProof.Rows PySem.Calls PySem.Spec PySem.SeqAt
structure BL where
 b : Nat
 h : Nat
 i : Nat
structure BookAt (σ : MH) (B : BL) (S : TS) : Prop where
 ok : TOK S
 bk : ∃ ep, σ[B.b]? = some (.dict ep [(.str 101, .loc B.h), (.str 104, .loc B.i), (.str 203, .loc S.sites), (.str 97, .loc S.gone), (.str 121, .loc S.leaks), (.str 113, .loc S.kept)])
 held : ∃ ep, σ[B.h]? = some (.dict ep (S.held.map fun e => (.int e.1, .loc e.2)))
 inside : ∃ ep, σ[B.i]? = some (.dict ep (S.inside.map fun e => (.str e.1, .loc e.2)))
 fullH : ∀ r : Int, 0 ≤ r → r < 6 → ∃ l, (r, l) ∈ S.held
 fullI : ∀ k ∈ [48, 53, 59, 76], ∃ l, (k, l) ∈ S.inside
 tab : ∀ t ∈ S.tabs, σ[t]? = some (.list (S.T t))
section
variable {C : Cx} {n t : Nat} {σ σ' : MH} {B : BL} {S : TS} {v : MV} {ρ : List (Nat × MV)} {ts ms : List MV} {D : List Nat} {e : IE}
theorem BookAt.keep (W : BookAt σ B S) (K : Kp D σ σ') (hD : ∀ x ∈ D, x ≠ B.b ∧ x ≠ B.h ∧ x ≠ B.i ∧ x ∉ S.tabs) : BookAt σ' B S := by
 obtain ⟨w1, ⟨e1, a1⟩, ⟨e2, a2⟩, ⟨e3, a3⟩, w5, w6, w7⟩ := W
 exact ⟨w1, ⟨e1, K.keep _ _ (fun h => (hD _ h).1 rfl) a1⟩, ⟨e2, K.keep _ _ (fun h => (hD _ h).2.1 rfl) a2⟩, ⟨e3, K.keep _ _ (fun h => (hD _ h).2.2.1 rfl) a3⟩, w5, w6, fun t ht => K.keep _ _ (fun h => (hD _ h).2.2.2 ht) (w7 t ht)⟩
theorem BookAt.keep0 (W : BookAt σ B S) (K : Kp [] σ σ') : BookAt σ' B S := W.keep K (by simp)
theorem TS.put_put (S : TS) (t : Nat) (a b : List MV) : (S.put t a).put t b = S.put t b := by
 unfold TS.put; congr 1; funext x; dsimp only; split <;> rfl
theorem TS.put_self (S : TS) (t : Nat) : S.put t (S.T t) = S := by
 unfold TS.put; cases S; congr 1; funext x; dsimp only; split
 ·rename_i h; rw [h]
 ·rfl
theorem TS.put_T (S : TS) (t : Nat) (a : List MV) : (S.put t a).T t = a := by simp [TS.put]
theorem TOK.putAll : ∀ {ms : List MV} {S : TS}, TOK S → (∀ k ∈ ms, Takes S t k) → TOK (S.put t (addAll (S.T t) ms))
 | [], S, W, _ => by show TOK (S.put t (S.T t)); rw [TS.put_self]; exact W
 | m :: ms, S, W, h => by
  have h1 := W.put (h m (by simp))
  have h2 := TOK.putAll (ms := ms) h1 fun k hk => h k (by simp [hk])
  rw [TS.put_T, TS.put_put] at h2
  exact h2
theorem BookAt.add (W : BookAt σ B S) (h : ∀ k ∈ ms, Takes S t k) (ht : t ∈ S.tabs) : BookAt (σ.set t (.list (addAll (S.T t) ms))) B (S.put t (addAll (S.T t) ms)) := by
 have K := W.ok.putAll h
 have q := W.tab t ht
 have hlt := (List.getElem?_eq_some_iff.mp q).1
 obtain ⟨w1, ⟨e1, a1⟩, ⟨e2, a2⟩, ⟨e3, a3⟩, w5, w6, w7⟩ := W
 refine ⟨K, ⟨e1, ?_⟩, ⟨e2, ?_⟩, ⟨e3, ?_⟩, w5, w6, fun x hx => ?_⟩
 ·rw [List.getElem?_set_ne (fun e => by rw [e, a1] at q; cases q)]; exact a1
 ·rw [List.getElem?_set_ne (fun e => by rw [e, a2] at q; cases q)]; exact a2
 ·rw [List.getElem?_set_ne (fun e => by rw [e, a3] at q; cases q)]; exact a3
 ·by_cases e : t = x
  ·subst e; rw [List.getElem?_set_self hlt, TS.put_T]
  ·rw [List.getElem?_set_ne e, w7 x hx]; simp [TS.put, Ne.symm e]
end
end Mine
namespace Mine
open PySem PySem.W PyProof.Rows PySem.Calls PySem.Spec PySem.SeqAt
section
variable {C : Cx} {n t k : Nat} {σ σ' : MH} {B : BL} {S : TS} {v : MV} {ρ : List (Nat × MV)} {ts ms : List MV} {D : List Nat} {e : IE} {r : Int}
theorem bk_fits {a b c d e f : MV} {k : Nat} (hk : k < tabN) : Fits [(.str 101, a), (.str 104, b), (.str 203, c), (.str 97, d), (.str 121, e), (.str 113, f)] (.str k) :=
 .inl ⟨str_atom hk, fun x hx => by
  simp only [List.mem_cons, List.not_mem_nil, or_false] at hx
  rcases hx with rfl | rfl | rfl | rfl | rfl | rfl <;> exact str_atom (by decide)⟩
theorem ev_bk (W : BookAt σ B S) (h : alook ρ 57 = some (.loc B.b)) {a x : Nat} (ha : a < tabN) (hx : dget [(.str 101, .loc B.h), (.str 104, .loc B.i), (.str 203, .loc S.sites), (.str 97, .loc S.gone), (.str 121, .loc S.leaks), (.str 113, .loc S.kept)] (.str a) = some (.loc x)) :
  Ev C (n + 1) (.sub (.var 57) (.lit (.str a))) ρ σ (.loc x) σ := by
 obtain ⟨ep, hb⟩ := W.bk
 exact .sub (.var h) .lit (by rw [kind_dict hb]; decide) (Op.itemD hb (bk_fits ha) hx)
theorem ev_bheld (W : BookAt σ B S) (h : alook ρ 57 = some (.loc B.b)) : Ev C (n + 1) (.sub (.var 57) (.lit (.str 101))) ρ σ (.loc B.h) σ := ev_bk W h (by decide) rfl
theorem ev_binside (W : BookAt σ B S) (h : alook ρ 57 = some (.loc B.b)) : Ev C (n + 1) (.sub (.var 57) (.lit (.str 104))) ρ σ (.loc B.i) σ := ev_bk W h (by decide) rfl
theorem ev_bsites (W : BookAt σ B S) (h : alook ρ 57 = some (.loc B.b)) : Ev C (n + 1) (.sub (.var 57) (.lit (.str 203))) ρ σ (.loc S.sites) σ := ev_bk W h (by decide) rfl
theorem ev_bgone (W : BookAt σ B S) (h : alook ρ 57 = some (.loc B.b)) : Ev C (n + 1) (.sub (.var 57) (.lit (.str 97))) ρ σ (.loc S.gone) σ := ev_bk W h (by decide) rfl
theorem ev_bleaks (W : BookAt σ B S) (h : alook ρ 57 = some (.loc B.b)) : Ev C (n + 1) (.sub (.var 57) (.lit (.str 121))) ρ σ (.loc S.leaks) σ := ev_bk W h (by decide) rfl
theorem ev_bkept (W : BookAt σ B S) (h : alook ρ 57 = some (.loc B.b)) : Ev C (n + 1) (.sub (.var 57) (.lit (.str 113))) ρ σ (.loc S.kept) σ := ev_bk W h (by decide) rfl
theorem ev_bheld_at (W : BookAt σ B S) (h : alook ρ 57 = some (.loc B.b)) (hr : 0 ≤ r ∧ r < 6) (he : Ev C (n + 1) e ρ σ (.int r) σ) :
  ∃ l, N3 (Ev C (n + 1) (.sub (.sub (.var 57) (.lit (.str 101))) e) ρ σ (.loc l) σ) ((r, l) ∈ S.held) (σ[l]? = some (.list (S.T l))) := by
 obtain ⟨ep, hb⟩ := W.held
 obtain ⟨l, hl⟩ := W.fullH r hr.1 hr.2
 refine ⟨l, .sub (ev_bheld W h) he (by rw [kind_dict hb]; decide) (Op.itemD hb (.inl ⟨⟨_, rfl⟩, fun e he => ?_⟩) ?_), hl, W.tab l (held_tab hl)⟩
 ·obtain ⟨q, hq, rfl⟩ := List.mem_map.mp he
  exact ⟨_, rfl⟩
 ·rw [dget_ints, find_key W.ok.keysH hl]; rfl
theorem ev_binside_at (W : BookAt σ B S) (h : alook ρ 57 = some (.loc B.b)) (hk : k ∈ [48, 53, 59, 76]) (he : Ev C (n + 1) e ρ σ (.str k) σ) :
  ∃ l, N3 (Ev C (n + 1) (.sub (.sub (.var 57) (.lit (.str 104))) e) ρ σ (.loc l) σ) ((k, l) ∈ S.inside) (σ[l]? = some (.list (S.T l))) := by
 obtain ⟨ep, hb⟩ := W.inside
 obtain ⟨l, hl⟩ := W.fullI k hk
 refine ⟨l, .sub (ev_binside W h) he (by rw [kind_dict hb]; decide) (Op.itemD hb (.inl ⟨str_atom (site_lt hk), fun e he => ?_⟩) ?_), hl, W.tab l (ins_tab hl)⟩
 ·obtain ⟨q, hq, rfl⟩ := List.mem_map.mp he
  exact str_atom (site_lt (W.ok.sits q hq))
 ·rw [dget_strs, find_key W.ok.keysI hl]; rfl
end
end Mine
namespace Mine
open PySem PySem.W PyProof.Rows PySem.Calls PySem.Spec PySem.SeqAt
section
variable {C : Cx} {n t k : Nat} {σ σ' : MH} {B : BL} {S : TS} {u v : MV} {ρ : List (Nat × MV)} {ts ms : List MV} {D : List Nat} {e : IE} {r : Int}
theorem pv_site (hk : k ∈ [48, 53, 59, 76]) : pv (.str k) 8 = true := by
 simp at hk
 rcases hk with rfl | rfl | rfl | rfl <;> decide
theorem pvs_sites (W : TOK S) : pvs (S.T S.gone) 8 = true := pvs_all fun x hx => by
 obtain ⟨k, hk, rfl⟩ := W.gon x hx; exact pv_site hk
theorem law_next_site (H : L1 C) (W : BookAt σ B S) (hk : k ∈ [48, 53, 59, 76]) :
  E3 fun σ' q zs => N6 (CallEv C (n + 2) (.ref 286) [.loc B.b, sv k] σ (.loc q) σ') (Kp [] σ σ') (σ.length ≤ q) (LRow σ' q zs) (zs.length ≤ 20) (∀ v, v ∈ zs ↔ Next S (sv k) v) := by
 let ρ₀ : List (Nat × MV) := [(57, .loc B.b), (221, sv k)]
 have hv : Ev C (n + 1) (.var 221) ρ₀ σ (.tup [.str 202, .str k]) σ := .var rfl
 have h0 : Tst C (n + 1) (.cmp .Eq (.sub (.var 221) (.lit (.int 0))) (.lit (.str 202))) ρ₀ σ true σ := by
  have := Tst.cmp (C := C) (n := n + 1) (ρ := ρ₀) (σ := σ) (ev_item0 hv) (.lit (v := .str 202)) (Op.eq (by decide) (by decide))
  rwa [MV.beq_refl] at this
 obtain ⟨l, hl, hm, hT⟩ := ev_binside_at (C := C) (n := n) (ρ := ρ₀) (e := .sub (.var 221) (.lit (.int 1))) W rfl hk (ev_item1 hv)
 have hin : Tst C (n + 1) (.cmp .In (.sub (.var 221) (.lit (.int 1))) (.sub (.var 57) (.lit (.str 97)))) ρ₀ σ (hasM (S.T S.gone) (.str k)) σ :=
  .cmp (ev_item1 hv) (ev_bgone W rfl) (Op.inL (W.tab _ (gone_tab S)) (pv_site hk) (pvs_sites W.ok))
 have hlen := W.ok.length (ins_tab hm)
 let gs : List MV := if hasM (S.T S.gone) (.str k) then [bv] else []
 have hg : Ev C (n + 1) (.ite (.cmp .In (.sub (.var 221) (.lit (.int 1))) (.sub (.var 57) (.lit (.str 97)))) (.list [.tup [.lit (.str 54)]]) (.list [])) ρ₀ σ (.loc σ.length) (σ ++ [.list gs]) := by
  by_cases q : hasM (S.T S.gone) (.str k) = true
  ·have e : gs = [bv] := if_pos q
   rw [e]; rw [q] at hin
   exact .iteT hin (.list (.cons (Ev.tup (.cons .lit .nil)) .nil))
  ·have q' : hasM (S.T S.gone) (.str k) = false := by simpa using q
   have e : gs = [] := if_neg q
   rw [e]; rw [q'] at hin
   exact .iteF hin (.list .nil)
 have hgl : gs.length ≤ 1 := by show (if _ then _ else _ : List MV).length ≤ 1; split <;> simp
 have hadd := Op.addL (C := C) (n := n + 1) (σ := σ ++ [.list gs]) (i := l) (j := σ.length) ((Kp.new [] σ _).get hT) (get_new ..) (by rw [sizeLine_eq]; lia)
 have hmem : ∀ v, v ∈ S.T l ++ gs ↔ Next S (sv k) v := fun v => by
  rw [List.mem_append]
  constructor
  ·rintro (h | h)
   ·exact .ins ⟨l, hm, h⟩
   ·by_cases q : hasM (S.T S.gone) (.str k) = true
    ·have e : gs = [bv] := if_pos q
     rw [e] at h; simp at h; subst h
     exact .gone (hasM_iff.mp q)
    ·have e : gs = [] := if_neg q
     rw [e] at h; simp at h
  ·intro h
   generalize hu : sv k = u at h
   cases h with
   | @ins k' v h =>
    cases sv_inj hu
    obtain ⟨l', a, b⟩ := h
    have := find_key W.ok.keysI a
    rw [find_key W.ok.keysI hm] at this
    cases this; exact .inl b
   | @gone k' h =>
    cases sv_inj hu
    have e : gs = [bv] := if_pos (hasM_iff.mpr h)
    rw [e]; simp
   | kept h => exact absurd hu.symm sv_ne_ov
 exact ⟨_, _, S.T l ++ gs, .fn (fn_law_next H) (.out (.ite_t h0 (.out (.ret (.bin hl hg hadd)) (by simp))) (by simp)) (.inl rfl), (Kp.new ..).trans' (Kp.new ..), by simp, ⟨get_new _ _, fun v hv => next_ok W.ok ((hmem v).mp hv)⟩, by simp; lia, hmem⟩
end
end Mine
namespace Mine
open PySem PySem.W PyProof.Rows PySem.Calls PySem.Spec PySem.SeqAt
section
variable {C : Cx} {n : Nat} {τ : MH} {b : MV → Bool} {g : MV → MV} {dep : MH → Prop} {t : Tg} {f : List IE} {elt : IE}
theorem cl_one (hd : ∀ ys, dep (τ ++ [.list ys])) (I : List (Nat × MV) → Prop) : ∀ (xs : List MV),
  (∀ x ∈ xs, ∀ ρ, I ρ → ∀ ys, ∃ ρ₁, bindT t x ρ = some ρ₁ ∧ I ρ₁ ∧ TstA C n f ρ₁ (τ ++ [.list ys]) (b x) (τ ++ [.list ys]) ∧ (b x = true → Ev C n elt ρ₁ (τ ++ [.list ys]) (g x) (τ ++ [.list ys]))) →
  ∀ (ys : List MV) (ρ : List (Nat × MV)), ys.length + xs.length < 1000 → I ρ → ∃ ρ', CL C n (EmL C n elt τ.length) [] [] [] t f dep xs ρ (τ ++ [.list ys]) ρ' (τ ++ [.list (ys ++ (xs.filter b).map g)])
 | [], _, ys, ρ, _, _ => ⟨ρ, by simpa using CL.nil (hd ys)⟩
 | x :: xs, turn, ys, ρ, hz, hI => by
  obtain ⟨ρ₁, h1, h2, h3, h4⟩ := turn x (by simp) ρ hI ys
  simp only [List.length_cons] at hz
  cases hb : b x with
  | false =>
   obtain ⟨ρ', h⟩ := cl_one hd I xs (fun y hy => turn y (by simp [hy])) ys ρ₁ (by lia) h2
   rw [hb] at h3
   exact ⟨ρ', by rw [List.filter_cons_of_neg (by simp [hb])]; exact .skip (hd ys) h1 h3 h⟩
  | true =>
   obtain ⟨ρ', h⟩ := cl_one hd I xs (fun y hy => turn y (by simp [hy])) (ys ++ [g x]) ρ₁ (by simp; lia) h2
   rw [hb] at h3
   refine ⟨ρ', ?_⟩
   rw [List.filter_cons_of_pos hb, List.map_cons]
   have e : ys ++ g x :: (xs.filter b).map g = (ys ++ [g x]) ++ (xs.filter b).map g := by simp
   rw [e]
   refine .emit (hd ys) h1 h3 ⟨g x, _, ys, h4 hb, get_new .., by rw [sizeLine_eq]; lia, ?_⟩ h
   rw [List.set_append_right _ _ (Nat.le_refl _), Nat.sub_self]; rfl
end
end Mine
namespace Mine
open PySem PySem.W PyProof.Rows PySem.Calls PySem.Spec PySem.SeqAt
section
variable {C : Cx} {n t k : Nat} {σ σ' : MH} {B : BL} {S : TS} {u v : MV} {ρ : List (Nat × MV)} {ts ms : List MV} {D : List Nat} {e : IE} {r : Int}
noncomputable def keptB (u : MV) : MV → Bool
 | .tup [.int _, .int o] => u.beq (ov o)
 | _ => false
noncomputable def keptG : MV → MV
 | .tup [.int i, .int _] => .int i
 | x => x
noncomputable def outG : MV → MV
 | .int i => if i = -1 then bv else ov i
 | x => x
noncomputable def keptRow (S : TS) (u : MV) : List MV := (((S.T S.kept).filter (keptB u)).map keptG).map outG
theorem mem_keptRow (W : TOK S) (hu : ∀ k, u ≠ sv k) : v ∈ keptRow S u ↔ Next S u v := by
 unfold keptRow
 simp only [List.mem_map, List.mem_filter]
 constructor
 ·rintro ⟨y, ⟨x, ⟨hx, hb⟩, rfl⟩, rfl⟩
  obtain ⟨i, _, o, _, rfl⟩ := W.kep x hx
  have e : u = ov o := MV.beq_iff.mp hb
  subst e
  exact .kept hx
 ·intro h
  cases h with
  | @ins k v h => exact absurd rfl (hu k)
  | @gone k h => exact absurd rfl (hu k)
  | @kept i o h => exact ⟨.int i, ⟨.tup [.int i, .int o], ⟨h, MV.beq_iff.mpr rfl⟩, rfl⟩, rfl⟩
theorem law_next_other (H : L1 C) (W : BookAt σ B S) (hu : TokOk u) (hs : ∀ k, u ≠ sv k) (h0 : ∀ ρ : List (Nat × MV), alook ρ 221 = some u → Tst C (n + 1) (.cmp .Eq (.sub (.var 221) (.lit (.int 0))) (.lit (.str 202))) ρ σ false σ) :
  E3 fun σ' q zs => N6 (CallEv C (n + 2) (.ref 286) [.loc B.b, u] σ (.loc q) σ') (Kp [] σ σ') (σ.length ≤ q) (LRow σ' q zs) (zs.length ≤ 20) (∀ v, v ∈ zs ↔ Next S u v) := by
 let ρ₀ : List (Nat × MV) := [(57, .loc B.b), (221, u)]
 have hk := W.tab _ (kept_tab S)
 have hkl := W.ok.length (kept_tab S)
 have hd : ∀ ys : List MV, (σ ++ [MO.list ys])[S.kept]? = some (.list (S.T S.kept)) := fun ys => (Kp.new [] σ _).get hk
 obtain ⟨ρ₁, c1⟩ := cl_one (C := C) (n := n + 1) (τ := σ) (b := keptB u) (g := keptG) (dep := fun σ' => σ'[S.kept]? = some (.list (S.T S.kept))) (t := .t [103, 162]) (f := [.cmp .Eq (.var 221) (.tup [.lit (.str 162), .var 162])]) (elt := .var 103) hd (fun ρ => alook ρ 221 = some u) (S.T S.kept) (fun x hx ρ hI ys => by
  obtain ⟨i, hi, o, ho, rfl⟩ := W.ok.kep x hx
  refine ⟨aset (aset ρ 103 (.int i)) 162 (.int o), rfl, by rw [alook_aset_ne _ _ (by decide), alook_aset_ne _ _ (by decide)]; exact hI, .one (Tst.cmp (.var (by rw [alook_aset_ne _ _ (by decide), alook_aset_ne _ _ (by decide)]; exact hI)) (.tup (.cons .lit (.cons (.var (alook_aset_same ..)) .nil))) (Op.eq (pv_tok hu) (pv_tok (.outer ho)))), fun _ => .var (by rw [alook_aset_ne _ _ (by decide), alook_aset_same]; rfl)⟩) [] (capr ρ₀ [221]) (by simp; lia) rfl
 rw [List.nil_append] at c1
 let ws : List MV := ((S.T S.kept).filter (keptB u)).map keptG
 have hws : ws.length ≤ 7 := by
  have := List.length_filter_le (keptB u) (S.T S.kept)
  simp only [ws, List.length_map]; lia
 have hwi : ∀ x ∈ ws, ∃ i, i ∈ [(-1 : Int), 0, 1] ∧ x = .int i := fun x hx => by
  obtain ⟨y, hy, rfl⟩ := List.mem_map.mp hx
  obtain ⟨i, hi, o, ho, rfl⟩ := W.ok.kep y (List.mem_filter.mp hy).1
  exact ⟨i, hi, rfl⟩
 have hd2 : ∀ ys : List MV, ((σ ++ [MO.list ws]) ++ [MO.list ys])[σ.length]? = some (.list ws) := fun ys => (Kp.new [] (σ ++ [MO.list ws]) _).get (get_new ..)
 obtain ⟨ρ₂, c2⟩ := cl_one (C := C) (n := n + 1) (τ := σ ++ [.list ws]) (b := fun _ => true) (g := outG) (dep := fun σ' => σ'[σ.length]? = some (.list ws)) (t := .v 103) (f := []) (elt := .ite (.cmp .Eq (.var 103) (.neg (.lit (.int 1)))) (.tup [.lit (.str 54)]) (.tup [.lit (.str 162), .var 103])) hd2 (fun _ => True) ws (fun x hx ρ _ ys => by
  obtain ⟨i, hi, rfl⟩ := hwi x hx
  refine ⟨aset ρ 103 (.int i), rfl, trivial, .nil, fun _ => ?_⟩
  have ht : Tst C (n + 1) (.cmp .Eq (.var 103) (.neg (.lit (.int 1)))) (aset ρ 103 (.int i)) ((σ ++ [.list ws]) ++ [.list ys]) ((MV.int i).beq (.int (-1))) ((σ ++ [.list ws]) ++ [.list ys]) := .cmp (.var (alook_aset_same ..)) (.neg .lit) (Op.eq rfl rfl)
  show Ev _ _ _ _ _ (if i = -1 then bv else ov i) _
  by_cases h : i = -1
  ·subst h; rw [MV.beq_refl] at ht; rw [if_pos rfl]; exact .iteT ht (.tup (.cons .lit .nil))
  ·rw [MV.beq_false.mpr (by simpa using h)] at ht; rw [if_neg h]; exact .iteF ht (.tup (.cons .lit (.cons (.var (alook_aset_same ..)) .nil)))) [] (capr (aset ρ₀ 206 (.loc σ.length)) []) (by simp; lia) trivial
 have hf : ws.filter (fun _ => true) = ws := by simp
 rw [List.nil_append, hf] at c2
 refine ⟨(σ ++ [MO.list ws]) ++ [MO.list (keptRow S u)], (σ ++ [MO.list ws]).length, keptRow S u, .fn (fn_law_next H) (.cons (.ite_f (h0 _ rfl) .nil) (.cons (.setc (.of (ev_bkept W rfl) (.list hk)) c1) (.out (.ret (.compL (.of (.var rfl) (.list (get_new ..))) c2)) (by simp)))) (.inl rfl), (Kp.new ..).trans' (Kp.new ..), by simp, ⟨get_new .., fun v hv => next_ok W.ok ((mem_keptRow W.ok hs).mp hv)⟩, by show (List.map outG ws).length ≤ 20; simp; lia, fun v => mem_keptRow W.ok hs⟩
end
end Mine
namespace Mine
open PySem PySem.W PyProof.Rows PySem.Calls PySem.Spec PySem.SeqAt
section
variable {C : Cx} {n : Nat} {σ σ' : MH} {B : BL} {S : TS} {u v : MV}
theorem law_next_spec (H : L1 C) (W : BookAt σ B S) (hu : TokOk u) :
  E3 fun σ' q zs => N6 (CallEv C (n + 2) (.ref 286) [.loc B.b, u] σ (.loc q) σ') (Kp [] σ σ') (σ.length ≤ q) (LRow σ' q zs) (zs.length ≤ 20) (∀ v, v ∈ zs ↔ Next S u v) := by
 have hu' := hu
 cases hu with
 | @site k hk => exact law_next_site H W hk
 | @outer j hj =>
  refine law_next_other H W hu' (fun _ => sv_ne_ov) fun ρ h => ?_
  have := Tst.cmp (C := C) (n := n + 1) (ρ := ρ) (σ := σ) (ev_item0 (x := .str 162) (xs := [.int j]) (.var h)) (.lit (v := .str 202)) (Op.eq (by decide) (by decide))
  have e : (MV.str 162).beq (.str 202) = false := by decide
  rwa [e] at this
 | beyond =>
  refine law_next_other H W hu' (fun _ => bv_ne_sv) fun ρ h => ?_
  have := Tst.cmp (C := C) (n := n + 1) (ρ := ρ) (σ := σ) (ev_item0 (x := .str 54) (xs := []) (.var h)) (.lit (v := .str 202)) (Op.eq (by decide) (by decide))
  have e : (MV.str 54).beq (.str 202) = false := by decide
  rwa [e] at this
end
end Mine
namespace Mine
open PySem PySem.W PyProof.Rows PySem.Calls PySem.Spec PySem.SeqAt
section
variable {C : Cx} {n t : Nat} {σ σ' : MH} {B : BL} {S : TS} {u v : MV} {ρ : List (Nat × MV)} {ts : List MV}
noncomputable abbrev readBody : List IS := [.expr (.call (.glob 23) [.var 91, .ite (.cmp .Eq (.sub (.var 221) (.lit (.int 0))) (.lit (.str 202))) (.call (.glob 32) [.var 57, .var 221]) (.bin .Add (.list [.var 221]) (.call (.glob 32) [.var 57, .var 221]))])]
theorem read_arg (H : L1 C) (W : BookAt σ B S) (hu : TokOk u) (h57 : alook ρ 57 = some (.loc B.b)) (h221 : alook ρ 221 = some u) :
  E3 fun σ' q zs => N6 (Ev C (n + 2) (.ite (.cmp .Eq (.sub (.var 221) (.lit (.int 0))) (.lit (.str 202))) (.call (.glob 32) [.var 57, .var 221]) (.bin .Add (.list [.var 221]) (.call (.glob 32) [.var 57, .var 221]))) ρ σ (.loc q) σ') (Kp [] σ σ') (σ.length ≤ q) (LRow σ' q zs) (zs.length ≤ 21) (∀ v, v ∈ zs ↔ Loads S u v) := by
 have hu' := hu
 have one : (∀ k, u ≠ sv k) → Tst C (n + 2) (.cmp .Eq (.sub (.var 221) (.lit (.int 0))) (.lit (.str 202))) ρ σ false σ →
   E3 fun σ' q zs => N6 (Ev C (n + 2) (.ite (.cmp .Eq (.sub (.var 221) (.lit (.int 0))) (.lit (.str 202))) (.call (.glob 32) [.var 57, .var 221]) (.bin .Add (.list [.var 221]) (.call (.glob 32) [.var 57, .var 221]))) ρ σ (.loc q) σ') (Kp [] σ σ') (σ.length ≤ q) (LRow σ' q zs) (zs.length ≤ 21) (∀ v, v ∈ zs ↔ Loads S u v) := fun hs ht => by
  obtain ⟨σ₁, q, zs, hc, K, hq, hr, hz, hm⟩ := law_next_spec (n := n) H (W.keep0 (Kp.new [] σ [.list [u]])) hu'
  have h1 : σ₁[σ.length]? = some (.list [u]) := K.get (get_new ..)
  refine ⟨_, _, [u] ++ zs, .iteF ht (.bin (.list (.cons (.var h221) .nil)) (.call (gl_law_next H) (ke_law_next H) (.cons (.var h57) (.cons (.var h221) .nil)) hc) (Op.addL h1 hr.1 (by rw [sizeLine_eq]; simp; lia))), ((Kp.new ..).trans' K).trans' (Kp.new ..), ?_, ⟨get_new .., fun v hv => ?_⟩, by simp; lia, fun v => ?_⟩
  ·have := K.len; simp at this; lia
  ·rcases List.mem_append.mp hv with h | h
   ·simp at h; subst h; exact hu'
   ·exact hr.2 v h
  ·rw [List.mem_append, hm, List.mem_singleton]
   constructor
   ·rintro (h | h)
    ·exact .inr ⟨h, hs⟩
    ·exact .inl h
   ·rintro (h | h)
    ·exact .inr h
    ·exact .inl h.1
 cases hu with
 | @site k hk =>
  obtain ⟨σ₁, q, zs, hc, K, hq, hr, hz, hm⟩ := law_next_spec (n := n) H W hu'
  have := Tst.cmp (C := C) (n := n + 2) (ρ := ρ) (σ := σ) (ev_item0 (x := .str 202) (xs := [.str k]) (.var h221)) (.lit (v := .str 202)) (Op.eq (by decide) (by decide))
  rw [MV.beq_refl] at this
  exact ⟨σ₁, q, zs, .iteT this (.call (gl_law_next H) (ke_law_next H) (.cons (.var h57) (.cons (.var h221) .nil)) hc), K, hq, hr, by lia, fun v => (hm v).trans ⟨.inl, fun h => h.elim id fun h => absurd rfl (h.2 k)⟩⟩
 | @outer j hj =>
  refine one (fun _ => sv_ne_ov) ?_
  have := Tst.cmp (C := C) (n := n + 2) (ρ := ρ) (σ := σ) (ev_item0 (x := .str 162) (xs := [.int j]) (.var h221)) (.lit (v := .str 202)) (Op.eq (by decide) (by decide))
  have e : (MV.str 162).beq (.str 202) = false := by decide
  rwa [e] at this
 | beyond =>
  refine one (fun _ => bv_ne_sv) ?_
  have := Tst.cmp (C := C) (n := n + 2) (ρ := ρ) (σ := σ) (ev_item0 (x := .str 54) (xs := []) (.var h221)) (.lit (v := .str 202)) (Op.eq (by decide) (by decide))
  have e : (MV.str 54).beq (.str 202) = false := by decide
  rwa [e] at this
end
end Mine
namespace Mine
open PySem PySem.W PyProof.Rows PySem.Calls PySem.Spec PySem.SeqAt
section
variable {C : Cx} {n t : Nat} {σ σ' : MH} {B : BL} {S : TS} {u v : MV} {ρ : List (Nat × MV)} {ts : List MV}
theorem toks_short {ws : List MV} (hn : ws.Nodup) (h : ∀ v ∈ ws, TokOk v) : ws.length ≤ 7 :=
 Nat.le_trans (length_le_of_sub hn fun x hx => (h x hx).mem) (by decide)
theorem law_read_spec (H : L1 C) (W : BookAt σ B S) (ht : LRow σ t ts) :
  E3 fun σ' k zs => N6 (CallEv C (n + 3) (.ref 305) [.loc B.b, .loc t] σ (.loc k) σ') (Kp [] σ σ') (σ.length ≤ k) (LRow σ' k zs) (zs.Nodup) (∀ v, v ∈ zs ↔ ∃ u ∈ ts, Loads S u v) := by
 let ρ₀ : List (Nat × MV) := [(57, .loc B.b), (222, .loc t)]
 let J : List MV → List (Nat × MV) → MH → Prop := fun rem ρ' σ' => E2 fun done zs => N7 (ts = done ++ rem) (Kp [] σ σ') (LRow σ' σ.length zs) (zs.Nodup) ((∀ v, v ∈ zs ↔ ∃ u ∈ done, Loads S u v)) (alook ρ' 57 = some (.loc B.b)) (alook ρ' 91 = some (.loc σ.length))
 obtain ⟨ρ', σ', hlp, done, zs, e', K, hr, hn, hm, _, h91⟩ : E2 fun ρ' σ' => Loop C (n + 2) (.v 221) readBody (fun σ' => σ'[t]? = some (.list ts)) ts (aset ρ₀ 91 (.loc σ.length)) (σ ++ [.list []]) .next ρ' σ' ∧ J [] ρ' σ' := by
  refine Loop.inv J ?_ ?_ ts _ _ ⟨[], [], rfl, Kp.new .., ⟨get_new .., by simp⟩, by simp, by simp, rfl, rfl⟩
  ·rintro y rem ρ₁ σ₁ ⟨done, zs, e', K, hr, hn, hm, h1, h2⟩
   refine ⟨K.get ht.1, ?_⟩
   have hy : TokOk y := ht.2 y (by rw [e']; simp)
   obtain ⟨σ₂, q, ws, he, K₂, hq, hw, hz, hmw⟩ := read_arg (n := n) (ρ := aset ρ₁ 221 y) H (W.keep0 K) hy (look_ne h1 (by decide)) (alook_aset_same ..)
   have hr2 := K₂.get hr.1
   have hne : σ.length ≠ q := by have := (List.getElem?_eq_some_iff.mp hr.1).1; lia
   have hadd := law_add_spec (n := n) H hr2 hw.1 hne (fun x hx => pv_tok (hr.2 x hx)) (fun x hx => pv_tok (hw.2 x hx)) (by have := toks_short hn hr.2; lia)
   have hlt := (List.getElem?_eq_some_iff.mp hr2).1
   have K₃ : Kp [] σ (σ₂.set σ.length (.list (addAll zs ws))) := ⟨by have := (K.trans' K₂).len; simp; exact this, fun i o _ h => by
    have := (List.getElem?_eq_some_iff.mp h).1
    rw [List.getElem?_set_ne (by lia)]; exact (K.trans' K₂).get h⟩
   refine ⟨_, .next, _, _, rfl, .cons (.expr (.call (gl_law_add H) (ke_law_add H) (.cons (.var (look_ne h2 (by decide))) (.cons he .nil)) hadd)) .nil, .inl rfl, done ++ [y], addAll zs ws, by rw [e']; simp, K₃, ⟨List.getElem?_set_self hlt, fun v hv => ?_⟩, addAll_nodup hn, fun v => ?_, look_ne h1 (by decide), look_ne h2 (by decide)⟩
   ·rcases mem_addAll.mp hv with h | h
    ·exact hr.2 v h
    ·exact hw.2 v h
   ·rw [mem_addAll, hm, hmw]
    simp [or_and_right, exists_or]
  ·rintro ρ₁ σ₁ ⟨done, zs, e', K, _⟩
   exact K.get ht.1
 rw [List.append_nil] at e'
 subst e'
 exact ⟨σ', σ.length, zs, .fn (fn_law_read H) (.cons (.setv (.list .nil)) (.cons (.for (.of (.var rfl) (.list ((Kp.new [] σ _).get ht.1))) hlp) (.out (.ret (.var h91)) (by simp)))) (.inl rfl), K, Nat.le_refl _, hr, hn, hm⟩
end
end Mine
namespace Mine
open PySem PySem.W PyProof.Rows PySem.Calls PySem.Spec PySem.SeqAt
section
variable {C : Cx} {n q a i : Nat} {all : List MV}
theorem cl_copy (hne : a ≠ q) : ∀ (zs ys : List MV) (ρ : List (Nat × MV)) (σ : MH), σ[a]? = some (.list ys) → σ[q]? = some (.list all) → ys.length + zs.length < 1000 →
  ∃ ρ', CL C n (EmL C n (.var i) a) [] [] [] (.v i) [] (fun σ' => σ'[q]? = some (.list all)) zs ρ σ ρ' (σ.set a (.list (ys ++ zs))) ∧ ∀ j, j ≠ i → alook ρ' j = alook ρ j
 | [], ys, ρ, σ, ha, hq, _ => by
  refine ⟨ρ, ?_, fun _ _ => rfl⟩
  have e : σ.set a (.list (ys ++ [])) = σ := by
   apply List.ext_getElem?
   intro j
   by_cases e : a = j
   ·subst e; rw [List.getElem?_set_self (List.getElem?_eq_some_iff.mp ha).1, ha]; simp
   ·rw [List.getElem?_set_ne e]
  rw [e]; exact .nil hq
 | z :: zs, ys, ρ, σ, ha, hq, hz => by
  have hlt := (List.getElem?_eq_some_iff.mp ha).1
  simp only [List.length_cons] at hz
  obtain ⟨ρ', h, hρ⟩ := cl_copy hne zs (ys ++ [z]) (aset ρ i z) (σ.set a (.list (ys ++ [z]))) (List.getElem?_set_self hlt) (by rw [List.getElem?_set_ne hne]; exact hq) (by simp; lia)
  refine ⟨ρ', .emit hq rfl .nil ⟨z, σ, ys, .var (alook_aset_same ..), ha, by rw [sizeLine_eq]; lia, rfl⟩ ?_, fun j hj => by rw [hρ j hj, alook_aset_ne _ _ hj]⟩
  rw [List.set_set] at h
  simpa using h
end
end Mine
namespace Mine
open PySem PySem.W PyProof.Rows PySem.Calls PySem.Spec PySem.SeqAt
section
variable {C : Cx} {n d b : Nat} {σ₀ : MH} {B : BL} {S : TS} {all : List MV}
theorem cl_next (H : L1 C) (W : BookAt σ₀ B S) (hok : ∀ v ∈ all, TokOk v) : ∀ (xs ys : List MV) (ρ : List (Nat × MV)) (σ : MH), (∀ x ∈ xs, TokOk x) → Kp [] σ₀ σ → σ₀[d]? = some (.list all) → σ₀.length ≤ b → σ[b]? = some (.list ys) → (∀ v ∈ ys, TokOk v) → ys.length + 20 * xs.length < 900 → alook ρ 57 = some (.loc B.b) →
  E3 fun ρ' σ' zs => N5 (CL C (n + 2) (EmL C (n + 2) (.var 156) b) [.v 156] [.call (.glob 32) [.var 57, .var 221]] [[]] (.v 221) [] (fun σ' => σ'[d]? = some (.list all)) xs ρ σ ρ' σ') (Kp [] σ₀ σ') (LRow σ' b zs) (zs.length ≤ ys.length + 20 * xs.length) (∀ v, v ∈ zs ↔ v ∈ ys ∨ ∃ u ∈ xs, Next S u v)
 | [], ys, ρ, σ, _, K, hd, _, hb, hy, _, _ => ⟨ρ, σ, ys, .nil (K.get hd), K, ⟨hb, hy⟩, by simp, by simp⟩
 | x :: xs, ys, ρ, σ, hx, K, hd, hlb, hb, hy, hz, h57 => by
  simp only [List.length_cons] at hz
  obtain ⟨σ₁, q, ws, hc, K₁, hq, hw, hwz, hwm⟩ := law_next_spec (n := n) H (W.keep0 K) (hx x (by simp))
  have hb1 := K₁.get hb
  have hne : b ≠ q := by have := (List.getElem?_eq_some_iff.mp hb).1; lia
  obtain ⟨ρ₂, h2, hρ⟩ := cl_copy (C := C) (n := n + 2) (i := 156) hne ws ys (aset ρ 221 x) σ₁ hb1 hw.1 (by lia)
  have hlt := (List.getElem?_eq_some_iff.mp hb1).1
  have K₂ : Kp [] σ₀ (σ₁.set b (.list (ys ++ ws))) := ⟨by have := (K.trans' K₁).len; simp; exact this, fun i o _ h => by
   have := (List.getElem?_eq_some_iff.mp h).1
   rw [List.getElem?_set_ne (by lia)]; exact (K.trans' K₁).get h⟩
  obtain ⟨ρ₃, σ₃, zs, h3, K₃, hr, hl, hm⟩ := cl_next H W hok xs (ys ++ ws) ρ₂ (σ₁.set b (.list (ys ++ ws))) (fun y hy => hx y (by simp [hy])) K₂ hd hlb (List.getElem?_set_self hlt) (fun v hv => (List.mem_append.mp hv).elim (hy v) (hw.2 v)) (by simp; lia) (by rw [hρ 57 (by decide), alook_aset_ne _ _ (by decide)]; exact h57)
  refine ⟨ρ₃, σ₃, zs, .inner (K.get hd) rfl .nil (.of (.call (gl_law_next H) (ke_law_next H) (.cons (.var (look_ne h57 (by decide))) (.cons (.var (alook_aset_same ..)) .nil)) hc) (.list hw.1)) h2 h3, K₃, hr, ?_, fun v => ?_⟩
  ·simp at hl ⊢; lia
  ·rw [hm, List.mem_append, hwm]
   simp [or_assoc]
end
end Mine
namespace Mine
open PySem PySem.W PyProof.Rows PySem.Calls PySem.Spec PySem.SeqAt
section
variable {C : Cx} {n t d : Nat} {σ₀ σ σ' : MH} {B : BL} {S : TS} {u v : MV} {ρ : List (Nat × MV)} {ts zs : List MV}
noncomputable abbrev allBody : List IS := [
  .setv 204 (.call (.glob 123) [.var 91]),
  .expr (.call (.glob 23) [.var 91, .comp [57] (.var 156) [.v 221, .v 156] [.var 91, .call (.glob 32) [.var 57, .var 221]] [[], []]])]
theorem capr1 {i : Nat} (h : alook ρ i = some v) : alook (capr ρ [i]) i = some v := by
 simp [capr, h, alook]
theorem Kp.setNew {x : MO} (K : Kp [] σ₀ σ) (h : σ₀.length ≤ d) : Kp [] σ₀ (σ.set d x) :=
 ⟨by simpa using K.len, fun i o _ e => by
  have := (List.getElem?_eq_some_iff.mp e).1
  rw [List.getElem?_set_ne (by lia)]; exact K.get e⟩
theorem addAll_eq_of_len {ts ms : List MV} (h : (addAll ts ms).length = ts.length) : addAll ts ms = ts :=
 ((addAll_prefix (ts := ts) (ms := ms)).eq_of_length h.symm).symm
theorem all_loop (H : L1 C) (W : BookAt σ₀ B S) (hd : σ₀.length ≤ d) : ∀ (m : Nat) (ρ : List (Nat × MV)) (σ : MH) (zs : List MV) (sz : Int), 8 - zs.length ≤ m → Kp [] σ₀ σ → LRow σ d zs → zs.Nodup → alook ρ 57 = some (.loc B.b) → alook ρ 91 = some (.loc d) → alook ρ 204 = some (.int sz) → sz < zs.length →
  E4 fun j ρ' σ' fs => N8 (WLoop C (n + 2) (.cmp .Lt (.var 204) (.call (.glob 123) [.var 91])) allBody j ρ σ .next ρ' σ') (Kp [] σ₀ σ') (LRow σ' d fs) (fs.Nodup) ((∀ v, v ∈ zs → v ∈ fs)) ((∀ u v, u ∈ fs → Next S u v → v ∈ fs)) ((∀ v, v ∈ fs → Reach S (· ∈ zs) v)) (alook ρ' 91 = some (.loc d)) := by
 intro m
 induction m with
 | zero =>
  intro ρ σ zs sz hm K hr hn
  have := toks_short hn hr.2
  lia
 | succ m ih =>
  intro ρ σ zs sz hm K hr hn h57 h91 h204 hsz
  have hlen : ∀ {ρ : List (Nat × MV)} {σ : MH} {zs : List MV}, alook ρ 91 = some (.loc d) → LRow σ d zs → Ev C (n + 2) (.call (.glob 123) [.var 91]) ρ σ (.int zs.length) σ := fun h hr => .call (gl_len H) (.inl fun _ q => by cases q) (.cons (.var h) .nil) (CallEv.lenL hr.1)
  have ht : Tst C (n + 2) (.cmp .Lt (.var 204) (.call (.glob 123) [.var 91])) ρ σ true σ := by
   have := Tst.cmp (C := C) (n := n + 2) (ρ := ρ) (σ := σ) (.var h204) (hlen h91 hr) Op.ltI
   rwa [decide_eq_true hsz] at this
  let ρ₁ := aset ρ 204 (.int zs.length)
  have a57 : alook ρ₁ 57 = some (.loc B.b) := look_ne h57 (by decide)
  have a91 : alook ρ₁ 91 = some (.loc d) := look_ne h91 (by decide)
  have a204 : alook ρ₁ 204 = some (.int zs.length) := alook_aset_same ..
  obtain ⟨ρc, σ₁, ws, hcl, K₁, hw, hwl, hwm⟩ := cl_next (n := n) (d := d) (b := σ.length) (all := zs) H (W.keep0 K) hr.2 zs [] (capr ρ₁ [57]) (σ ++ [.list []]) hr.2 (Kp.new ..) hr.1 (Nat.le_refl _) (get_new ..) (by simp) (by have := toks_short hn hr.2; simp; lia) (capr1 a57)
  have hcomp : Ev C (n + 2) (.comp [57] (.var 156) [.v 221, .v 156] [.var 91, .call (.glob 32) [.var 57, .var 221]] [[], []]) ρ₁ σ (.loc σ.length) σ₁ := .compL (.of (.var a91) (.list hr.1)) hcl
  have hr1 := K₁.get hr.1
  have hdl : d < σ.length := (List.getElem?_eq_some_iff.mp hr.1).1
  have hzl := toks_short hn hr.2
  have hadd := law_add_spec (n := n) H hr1 hw.1 (by lia) (fun x hx => pv_tok (hr.2 x hx)) (fun x hx => pv_tok (hw.2 x hx)) (by simp at hwl; lia)
  have hX : Xs C (n + 2) allBody ρ σ .next ρ₁ (σ₁.set d (.list (addAll zs ws))) :=
   .cons (.setv (hlen h91 hr)) (.cons (.expr (.call (gl_law_add H) (ke_law_add H) (.cons (.var a91) (.cons hcomp .nil)) hadd)) .nil)
  have K₂ : Kp [] σ₀ (σ₁.set d (.list (addAll zs ws))) := (K.trans' K₁).setNew hd
  have hok : ∀ v ∈ addAll zs ws, TokOk v := fun v hv => (mem_addAll.mp hv).elim (hr.2 v) (hw.2 v)
  have hr2 : LRow (σ₁.set d (.list (addAll zs ws))) d (addAll zs ws) := ⟨List.getElem?_set_self (List.getElem?_eq_some_iff.mp hr1).1, hok⟩
  have hstep : ∀ u v, u ∈ zs → Next S u v → v ∈ addAll zs ws := fun u v hu hn => mem_addAll.mpr (.inr ((hwm v).mpr (.inr ⟨u, hu, hn⟩)))
  have hsound : ∀ v, v ∈ addAll zs ws → Reach S (· ∈ zs) v := fun v hv => by
   rcases mem_addAll.mp hv with h | h
   ·exact .base h
   ·rcases (hwm v).mp h with h | ⟨u, hu, hnx⟩
    ·simp at h
    ·exact .step (.base hu) hnx
  by_cases he : (addAll zs ws).length = zs.length
  ·have e := addAll_eq_of_len he
   rw [e] at hr2 hstep hX K₂
   have ht2 : Tst C (n + 2) (.cmp .Lt (.var 204) (.call (.glob 123) [.var 91])) ρ₁ (σ₁.set d (.list zs)) false (σ₁.set d (.list zs)) := by
    have := Tst.cmp (C := C) (n := n + 2) (ρ := ρ₁) (σ := σ₁.set d (.list zs)) (.var a204) (hlen a91 hr2) Op.ltI
    rwa [decide_eq_false (by lia)] at this
   exact ⟨1, ρ₁, _, zs, .turn ht hX (.inl rfl) (.stop ht2), K₂, hr2, hn, fun _ h => h, hstep, fun v hv => .base hv, a91⟩
  ·have hge := (addAll_prefix (ts := zs) (ms := ws)).length_le
   obtain ⟨j, ρ', σ', fs, hW, K', hr', hn', hsub, hcl', hs', h91'⟩ := ih ρ₁ _ (addAll zs ws) zs.length (by lia) K₂ hr2 (addAll_nodup hn) a57 a91 a204 (by lia)
   refine ⟨j + 1, ρ', σ', fs, .turn ht hX (.inl rfl) hW, K', hr', hn', fun v hv => hsub v (mem_addAll.mpr (.inl hv)), hcl', fun v hv => ?_, h91'⟩
   have := hs' v hv
   clear hv
   induction this with
   | base h => exact hsound _ h
   | step _ hnx ih => exact .step ih hnx
theorem law_all_spec (H : L1 C) (W : BookAt σ B S) (ht : LRow σ t ts) (hlen : ts.length ≤ 100) :
  E3 fun σ' k zs => N6 (CallEv C (n + 3) (.ref 291) [.loc B.b, .loc t] σ (.loc k) σ') (Kp [] σ σ') (σ.length ≤ k) (LRow σ' k zs) (zs.Nodup) (∀ v, v ∈ zs ↔ Reach S (· ∈ ts) v) := by
 let ρ₀ : List (Nat × MV) := asets [(57, .loc B.b), (222, .loc t)] [91, 204] [.loc σ.length, .int (-1)]
 have htl := (List.getElem?_eq_some_iff.mp ht.1).1
 have hadd := law_add_spec (n := n) (σ := σ ++ [.list []]) (t := σ.length) (m := t) (ts := []) (ms := ts) H (get_new ..) ((Kp.new [] σ _).get ht.1) (by lia) (by simp) (fun x hx => pv_tok (ht.2 x hx)) (by simp; lia)
 have K₁ : Kp [] σ ((σ ++ [MO.list []]).set σ.length (.list (addAll [] ts))) := (Kp.new [] σ _).setNew (Nat.le_refl _)
 have hm : ∀ v, v ∈ addAll [] ts ↔ v ∈ ts := fun v => by rw [mem_addAll]; simp
 obtain ⟨j, ρ', σ', fs, hW, K', hr', hn', hsub, hcl', hs', h91'⟩ := all_loop (n := n) H W (Nat.le_refl _) _ ρ₀ _ (addAll [] ts) (-1) (Nat.le_refl _) K₁ ⟨List.getElem?_set_self (by simp), fun v hv => ht.2 v ((hm v).mp hv)⟩ (addAll_nodup (by simp)) rfl rfl rfl (by lia)
 refine ⟨σ', σ.length, fs, .fn (fn_law_all H) (.cons (.sett (.tup (.cons (.list .nil) (.cons (.neg .lit) .nil)))) (.cons (.expr (.call (gl_law_add H) (ke_law_add H) (.cons (.var rfl) (.cons (.var rfl) .nil)) hadd)) (.cons (.while hW) (.out (.ret (.var h91')) (by simp))))) (.inl rfl), K', Nat.le_refl _, hr', hn', fun v => ⟨fun h => ?_, fun h => ?_⟩⟩
 ·exact (hs' v h).mono (Sub.refl S) fun v q => (hm v).mp q
 ·induction h with
  | base h => exact hsub _ ((hm _).mpr h)
  | step _ hnx ih => exact hcl' _ _ ih hnx
end
end Mine
namespace Mine
open PySem PySem.W PyProof.Rows PySem.Calls PySem.Spec PySem.SeqAt
section
variable {C : Cx} {n t m d : Nat} {σ₀ σ σ' : MH} {B : BL} {S Z : TS} {k u v x : MV} {ρ : List (Nat × MV)} {ts ms zs : List MV} {e : IE}
theorem SiteOk.pv (h : SiteOk v) : pv v 8 = true := by obtain ⟨k, hk, rfl⟩ := h; exact pv_site hk
theorem OutOk.pv (h : OutOk v) : pv v 8 = true := by obtain ⟨k, hk, rfl⟩ := h; rfl
theorem KeptOk.pv (h : KeptOk v) : pv v 8 = true := by
 obtain ⟨i, hi, o, ho, rfl⟩ := h; rfl
theorem TOK.pvT (W : TOK S) (ht : t ∈ S.tabs) : ∀ x ∈ S.T t, pv x 8 = true := fun x hx => by
 simp only [TS.tabs, List.mem_append, List.mem_cons, List.not_mem_nil, or_false] at ht
 rcases ht with ((rfl | rfl | rfl | rfl) | h) | h
 ·exact (W.site x hx).pv
 ·exact (W.gon x hx).pv
 ·exact (W.leak x hx).pv
 ·exact (W.kep x hx).pv
 ·exact pv_tok (W.toks t (.inl h) x hx)
 ·exact pv_tok (W.toks t (.inr h) x hx)
theorem Takes.pv (h : Takes S t k) : pv k 8 = true := by
 rcases h with ⟨_, h⟩ | ⟨_, h⟩ | ⟨_, h⟩ | ⟨_, h⟩ | ⟨_, h⟩
 ·exact pv_tok h
 ·exact h.pv
 ·exact h.pv
 ·exact h.pv
 ·exact h.pv
theorem book_add (H : L1 C) (W : BookAt σ B S) (ht : t ∈ S.tabs) (h : ∀ k ∈ ms, Takes S t k) (hm : σ[m]? = some (.list ms)) (hmo : m ∉ S.tabs) (hz : ms.length ≤ 100) :
  ∃ σ', N3 (CallEv C (n + 2) (.ref 298) [.loc t, .loc m] σ .none σ') (BookAt σ' B (S.put t (addAll (S.T t) ms))) (Kp S.tabs σ σ') :=
 ⟨_, law_add_spec H (W.tab t ht) hm (fun e => hmo (e ▸ ht)) (W.ok.pvT ht) (fun x hx => (h x hx).pv) (by have := W.ok.length ht; lia), W.add h ht, Kp.of (Upd.set ..) (by simpa using ht)⟩
theorem putAll_ind {P : TS → Prop} : ∀ {ms : List MV} {S : TS}, P S → (∀ S' k, Same S S' → P S' → k ∈ ms → P (S'.put t (addM (S'.T t) k))) → P (S.put t (addAll (S.T t) ms))
 | [], S, h, _ => by show P (S.put t (S.T t)); rw [TS.put_self]; exact h
 | m :: ms, S, h, f => by
  have h2 := putAll_ind (P := P) (ms := ms) (S := S.put t (addM (S.T t) m)) (f S m (Same.refl S) h (by simp)) fun S' k hs hp hk => f S' k ((Same.put ..).trans hs) hp (by simp [hk])
  rw [TS.put_T, TS.put_put] at h2
  exact h2
theorem Same.putAll : ∀ {ms : List MV} {S : TS}, Same S (S.put t (addAll (S.T t) ms)) := fun {ms S} =>
 putAll_ind (P := fun S' => Same S S') (Same.refl S) fun S' k _ h _ => h.trans (Same.put ..)
theorem putAll_T {x : Nat} : v ∈ (S.put t (addAll (S.T t) ms)).T x ↔ v ∈ S.T x ∨ (x = t ∧ v ∈ ms) := by
 by_cases e : x = t
 ·subst e; rw [TS.put_T, mem_addAll]; simp
 ·simp [TS.put, e]
theorem ev_bkE (W : BookAt σ B S) (h : alook ρ 57 = some (.loc B.b)) {a x : Nat} (he : Ev C (n + 1) e ρ σ (.str a) σ) (ha : a < tabN) (hx : dget [(.str 101, .loc B.h), (.str 104, .loc B.i), (.str 203, .loc S.sites), (.str 97, .loc S.gone), (.str 121, .loc S.leaks), (.str 113, .loc S.kept)] (.str a) = some (.loc x)) :
  Ev C (n + 1) (.sub (.var 57) e) ρ σ (.loc x) σ := by
 obtain ⟨ep, hb⟩ := W.bk
 exact .sub (.var h) he (by rw [kind_dict hb]; decide) (Op.itemD hb (bk_fits ha) hx)
noncomputable abbrev outTab : IE := .sub (.dict [.lit (.str 202), .lit (.str 162), .lit (.str 54)] [.lit (.str 97), .lit (.str 121), .lit .none]) (.sub (.var 221) (.lit (.int 0)))
noncomputable def outPairs : List (MV × MV) := [(.str 202, .str 97), (.str 162, .str 121), (.str 54, .none)]
theorem fit3 {a : Nat} {es : List (MV × MV)} (ha : a < tabN) (h : ∀ p ∈ es, p ∈ outPairs) : Fits es (.str a) := .inl ⟨str_atom ha, fun e he => by
 have := h e he
 simp [outPairs] at this
 rcases this with rfl | rfl | rfl <;> exact str_atom (by decide)⟩
theorem ev_outTab {i : Nat} {r : List MV} {w : MV} (hv : alook ρ 221 = some (.tup (.str i :: r))) (hi : i < tabN) (hw : dget outPairs (.str i) = some w) : ∃ σ', Ev C (n + 1) outTab ρ σ w σ' ∧ Kp [] σ σ' := by
 have hd : Ev C (n + 1) (.dict [.lit (.str 202), .lit (.str 162), .lit (.str 54)] [.lit (.str 97), .lit (.str 121), .lit .none]) ρ σ (.loc σ.length) ((σ ++ [MO.dict 0 []]).set σ.length (.dict 3 outPairs)) :=
  Ev.dict (ps := outPairs) (.cons .lit .lit (.cons .lit .lit (.cons .lit .lit .nil))) (get_new ..) (.cons (fit3 (by decide) (by simp)) (by rw [sizeLine_eq]; decide) (.cons (ep := 1) (es := [(.str 202, .str 97)]) (fit3 (by decide) (by simp [outPairs])) (by rw [sizeLine_eq]; decide) (.cons (ep := 2) (es := [(.str 202, .str 97), (.str 162, .str 121)]) (fit3 (by decide) (by simp [outPairs])) (by rw [sizeLine_eq]; decide) .nil)))
 have hl : ((σ ++ [MO.dict 0 []]).set σ.length (MO.dict 3 outPairs))[σ.length]? = some (.dict 3 outPairs) := List.getElem?_set_self (by simp)
 exact ⟨_, .sub hd (ev_item0 (.var hv)) (by rw [kind_dict hl]; decide) (Op.itemD hl (fit3 hi (by simp)) hw), (Kp.new [] σ _).setNew (Nat.le_refl _)⟩
end
end Mine
namespace Mine
open PySem PySem.W PyProof.Rows PySem.Calls PySem.Spec PySem.SeqAt
section
variable {C : Cx} {n t m d : Nat} {σ₀ σ σ' : MH} {B : BL} {S S' Z : TS} {k u v x : MV} {ρ : List (Nat × MV)} {ts ms zs : List MV} {e : IE}
theorem BookAt.lt (W : BookAt σ B S) {x : Nat} (hx : x ∈ S.tabs) : x < σ.length := (List.getElem?_eq_some_iff.mp (W.tab x hx)).1
theorem book_one (H : L1 C) (W : BookAt σ B S) {eT eV : IE} (h : Takes S t v) (h1 : Ev C (n + 2) eT ρ σ (.loc t) σ) (h2 : Ev C (n + 2) eV ρ σ v σ) :
  ∃ σ', N3 (X1 C (n + 2) (.expr (.call (.glob 23) [eT, .list [eV]])) ρ σ .next ρ σ') (BookAt σ' B (S.put t (addM (S.T t) v))) (Kp S.tabs σ σ') := by
 have K₁ : Kp [] σ (σ ++ [.list [v]]) := Kp.new ..
 obtain ⟨σ', hc, W', K'⟩ := book_add (n := n) (m := σ.length) (ms := [v]) H (W.keep0 K₁) h.mem (fun k hk => by simp at hk; subst hk; exact h) (get_new ..) (fun q => Nat.lt_irrefl _ (W.lt q)) (by simp)
 exact ⟨σ', .expr (.call (gl_law_add H) (ke_law_add H) (.cons h1 (.cons (.list (.cons h2 .nil)) .nil)) hc), W', (K₁.up).trans' K'⟩
noncomputable abbrev outBody : List IS := [
  .setv 215 outTab,
  .ite (.cmp .IsNot (.var 215) (.lit .none)) [
   .expr (.call (.glob 23) [.sub (.var 57) (.var 215), .list [.sub (.var 221) (.lit (.int 1))]])] []]
theorem out_turn (H : L1 C) (W : BookAt σ B S) (h57 : alook ρ 57 = some (.loc B.b)) (h221 : alook ρ 221 = some x) (hx : TokOk x) :
  E3 fun ρ' σ' S' => N5 (Xs C (n + 3) outBody ρ σ .next ρ' σ') (BookAt σ' B S') (Kp S.tabs σ σ') (Leaked S S' (· = x)) (∀ j, j ≠ 215 → alook ρ' j = alook ρ j) := by
 obtain ⟨p1, p2, p3, p4, p5, p6, p7⟩ := tab_apart W.ok
 have hρ : ∀ w : MV, ∀ j, j ≠ 215 → alook (aset ρ 215 w) j = alook ρ j := fun w j hj => alook_aset_ne _ _ hj
 cases hx with
 | @site k hk =>
  obtain ⟨σ₁, hev, K₁⟩ := ev_outTab (C := C) (n := n + 2) (σ := σ) (i := 202) (r := [.str k]) (w := .str 97) h221 (by decide) rfl
  have a57 : alook (aset ρ 215 (.str 97)) 57 = some (.loc B.b) := by rw [hρ _ _ (by decide)]; exact h57
  have a221 : alook (aset ρ 215 (.str 97)) 221 = some (sv k) := by rw [hρ _ _ (by decide)]; exact h221
  have W₁ := W.keep0 K₁
  obtain ⟨σ₂, hX, W₂, K₂⟩ := book_one (n := n + 1) (eV := .sub (.var 221) (.lit (.int 1))) H W₁ (t := S.gone) (v := .str k) (.inr (.inr (.inl ⟨rfl, k, hk, rfl⟩))) (ev_bkE W₁ a57 (a := 97) (.var (alook_aset_same ..)) (by decide) rfl) (ev_item1 (.var a221))
  have ht : Tst C (n + 3) (.cmp .IsNot (.var 215) (.lit .none)) (aset ρ 215 (.str 97)) σ₁ true σ₁ := .cmp (.var (alook_aset_same ..)) .lit (Op.isNotNone (by simp))
  refine ⟨_, σ₂, _, .cons (.setv hev) (.cons (.ite_t ht (.cons hX .nil)) .nil), W₂, (K₁.up).trans' K₂, ⟨Same.put .., fun k' => ?_, fun o => ?_, fun y h1 h2 => by simp [TS.put, h1]⟩, hρ _⟩
  ·show MV.str k' ∈ (S.put S.gone _).T S.gone ↔ _
   rw [put_T]
   simp [goneT, sv]
  ·show MV.int o ∈ (S.put S.gone _).T S.leaks ↔ _
   rw [put_T]
   simp [leakT, Ne.symm p4, ov, sv]
 | @outer o ho =>
  obtain ⟨σ₁, hev, K₁⟩ := ev_outTab (C := C) (n := n + 2) (σ := σ) (i := 162) (r := [.int o]) (w := .str 121) h221 (by decide) rfl
  have a57 : alook (aset ρ 215 (.str 121)) 57 = some (.loc B.b) := by rw [hρ _ _ (by decide)]; exact h57
  have a221 : alook (aset ρ 215 (.str 121)) 221 = some (ov o) := by rw [hρ _ _ (by decide)]; exact h221
  have W₁ := W.keep0 K₁
  obtain ⟨σ₂, hX, W₂, K₂⟩ := book_one (n := n + 1) (eV := .sub (.var 221) (.lit (.int 1))) H W₁ (t := S.leaks) (v := .int o) (.inr (.inr (.inr (.inl ⟨rfl, o, ho, rfl⟩)))) (ev_bkE W₁ a57 (a := 121) (.var (alook_aset_same ..)) (by decide) rfl) (ev_item1 (.var a221))
  have ht : Tst C (n + 3) (.cmp .IsNot (.var 215) (.lit .none)) (aset ρ 215 (.str 121)) σ₁ true σ₁ := .cmp (.var (alook_aset_same ..)) .lit (Op.isNotNone (by simp))
  refine ⟨_, σ₂, _, .cons (.setv hev) (.cons (.ite_t ht (.cons hX .nil)) .nil), W₂, (K₁.up).trans' K₂, ⟨Same.put .., fun k' => ?_, fun o' => ?_, fun y h1 h2 => by simp [TS.put, h2]⟩, hρ _⟩
  ·show MV.str k' ∈ (S.put S.leaks _).T S.gone ↔ _
   rw [put_T]
   simp [goneT, p4, ov, sv]
  ·show MV.int o' ∈ (S.put S.leaks _).T S.leaks ↔ _
   rw [put_T]
   simp [leakT, ov]
 | beyond =>
  obtain ⟨σ₁, hev, K₁⟩ := ev_outTab (C := C) (n := n + 2) (σ := σ) (i := 54) (r := []) (w := .none) h221 (by decide) rfl
  have ht : Tst C (n + 3) (.cmp .IsNot (.var 215) (.lit .none)) (aset ρ 215 .none) σ₁ false σ₁ := .cmp (.var (alook_aset_same ..)) .lit (Op.isNotNone (by simp))
  refine ⟨_, σ₁, S, .cons (.setv hev) (.cons (.ite_f ht .nil) .nil), W.keep0 K₁, K₁.up, ⟨Same.refl S, fun k => ?_, fun o => ?_, fun _ _ _ => rfl⟩, hρ _⟩
  ·simp [sv, bv]
  ·simp [ov, bv]
theorem law_out_spec (H : L1 C) (W : BookAt σ B S) (ht : LRow σ t ts) (hlen : ts.length ≤ 100) :
  E2 fun σ' S' => N4 (CallEv C (n + 4) (.ref 312) [.loc B.b, .loc t] σ .none σ') (BookAt σ' B S') (Kp S.tabs σ σ') (Leaked S S' (Reach S (· ∈ ts))) := by
 obtain ⟨σ₁, z, zs, hr, K₁, hz, hrow, hzn, hzm⟩ := law_all_spec (n := n) H W ht hlen
 have W₁ := W.keep0 K₁
 let ρ₀ : List (Nat × MV) := [(57, .loc B.b), (222, .loc t)]
 have hit : ItEv C (n + 3) (.call (.glob 24) [.var 57, .var 222]) ρ₀ σ zs (fun σ' => σ'[z]? = some (.list zs)) σ₁ :=
  .of (.call (gl_law_all H) (ke_law_all H) (.cons (.var rfl) (.cons (.var rfl) .nil)) hr) (.list hrow.1)
 have hzo : z ∉ S.tabs := fun q => by have := W.lt q; lia
 obtain ⟨ρ', σ', hl, done, S', e, W', K', hL, _⟩ : E2 fun ρ' σ' => Loop C (n + 3) (.v 221) outBody (fun σ' => σ'[z]? = some (.list zs)) zs ρ₀ σ₁ .next ρ' σ' ∧ E2 fun done S' => N5 (zs = done ++ []) (BookAt σ' B S') (Kp S.tabs σ₁ σ') (Leaked S S' (· ∈ done)) (alook ρ' 57 = some (.loc B.b)) := by
  refine Loop.inv (fun rem ρ' σ' => E2 fun done S' => N5 (zs = done ++ rem) (BookAt σ' B S') (Kp S.tabs σ₁ σ') (Leaked S S' (· ∈ done)) (alook ρ' 57 = some (.loc B.b))) ?_ ?_ zs ρ₀ σ₁ ⟨[], S, rfl, W₁, Kp.refl .., ⟨Same.refl S, by simp, by simp, fun _ _ _ => rfl⟩, rfl⟩
  ·rintro y rem ρ₁ σ₂ ⟨done, S₁, e, W₂, K₂, hL, h1⟩
   refine ⟨K₂.keep _ _ hzo hrow.1, ?_⟩
   obtain ⟨ρ₃, σ₃, S₃, hX, W₃, K₃, hL₃, hρ⟩ := out_turn (n := n) (ρ := aset ρ₁ 221 y) H W₂ (look_ne h1 (by decide)) (alook_aset_same ..) (hrow.2 y (by rw [e]; simp))
   rw [hL.same.tabs] at K₃
   exact ⟨_, .next, _, σ₃, rfl, hX, .inl rfl, done ++ [y], S₃, by rw [e]; simp, W₃, K₂.trans' K₃, hL.trans hL₃ fun v => by simp, by rw [hρ 57 (by decide), alook_aset_ne _ _ (by decide)]; exact h1⟩
  ·rintro ρ₁ σ₂ ⟨done, S₁, e, W₂, K₂, hL, h1⟩
   exact K₂.keep _ _ hzo hrow.1
 rw [List.append_nil] at e
 subst e
 exact ⟨σ', S', .fn (fn_law_out H) (.cons (.for hit hl) .nil) (.inr ⟨rfl, rfl⟩), W', (K₁.up).trans' K', hL.same, fun k => by rw [hL.gone, hzm], fun o => by rw [hL.leak, hzm], hL.rest⟩
end
end Mine
namespace Mine
open PySem PySem.W PyProof.Rows PySem.Calls PySem.Spec PySem.SeqAt
section
variable {C : Cx} {n t m d k : Nat} {σ₀ σ σ' : MH} {B : BL} {S S' Z : TS} {u v x : MV} {ρ : List (Nat × MV)} {ts ms zs : List MV} {e : IE} {o : Int}
noncomputable abbrev intoOut : List IS := [
     .ite (.cmp .Eq (.sub (.var 221) (.lit (.int 0))) (.lit (.str 202))) [
      .expr (.call (.glob 35) [.var 57, .list [.var 221]])] [],
     .expr (.call (.glob 23) [.sub (.var 57) (.lit (.str 113)), .list [.tup [.ite (.cmp .Eq (.sub (.var 221) (.lit (.int 0))) (.lit (.str 162))) (.sub (.var 221) (.lit (.int 1))) (.neg (.lit (.int 1))), .sub (.var 217) (.lit (.int 1))]]])]
theorem into_note (H : L1 C) (W : BookAt σ B S) (h57 : alook ρ 57 = some (.loc B.b)) (h221 : alook ρ 221 = some x) (h217 : alook ρ 217 = some (ov o)) (ho : o ∈ [(0 : Int), 1]) (hx : TokOk x) :
  ∃ σ', N3 (X1 C (n + 2) (.expr (.call (.glob 23) [.sub (.var 57) (.lit (.str 113)), .list [.tup [.ite (.cmp .Eq (.sub (.var 221) (.lit (.int 0))) (.lit (.str 162))) (.sub (.var 221) (.lit (.int 1))) (.neg (.lit (.int 1))), .sub (.var 217) (.lit (.int 1))]]])) ρ σ .next ρ σ') (BookAt σ' B (S.put S.kept (addM (S.T S.kept) (.tup [.int (code x), .int o])))) (Kp S.tabs σ σ') := by
 have hv : Ev C (n + 2) (.ite (.cmp .Eq (.sub (.var 221) (.lit (.int 0))) (.lit (.str 162))) (.sub (.var 221) (.lit (.int 1))) (.neg (.lit (.int 1)))) ρ σ (.int (code x)) σ := by
  cases hx with
  | @site k hk => rw [code_sv]; exact .iteF (ev_head (h := .str 202) (r := [.str k]) h221 (by decide) (by decide)) (.neg .lit)
  | @outer j hj => exact .iteT (ev_head (h := .str 162) (r := [.int j]) h221 (by decide) (by decide)) (ev_item1 (.var h221))
  | beyond => exact .iteF (ev_head (h := .str 54) (r := []) h221 (by decide) (by decide)) (.neg .lit)
 exact book_one H W (.inr (.inr (.inr (.inr ⟨rfl, code x, code_mem hx, o, ho, rfl⟩)))) (ev_bkept W h57) (.tup (.cons hv (.cons (ev_item1 (.var h217)) .nil)))
theorem into_turn (H : L1 C) (W : BookAt σ B S) (h57 : alook ρ 57 = some (.loc B.b)) (h221 : alook ρ 221 = some x) (h217 : alook ρ 217 = some (ov o)) (ho : o ∈ [(0 : Int), 1]) (hx : TokOk x) :
  E2 fun σ' S' => N7 (Xs C (n + 4) intoOut ρ σ .next ρ σ') (BookAt σ' B S') (Kp S.tabs σ σ') (Same S S') ((∀ k, x = sv k → Out S S' (· = x))) (keptT S' (code x) o) ((∀ Z, Sub S Z → (∀ k, x = sv k → Out Z Z (· = x)) → keptT Z (code x) o → Sub S' Z)) := by
 have nosite : (∀ k, x ≠ sv k) → (h : MV) → (r : List MV) → x = .tup (h :: r) → pv h 8 = true → h.beq (.str 202) = false → E2 fun σ' S' => N7 (Xs C (n + 4) intoOut ρ σ .next ρ σ') (BookAt σ' B S') (Kp S.tabs σ σ') (Same S S') ((∀ k, x = sv k → Out S S' (· = x))) (keptT S' (code x) o) ((∀ Z, Sub S Z → (∀ k, x = sv k → Out Z Z (· = x)) → keptT Z (code x) o → Sub S' Z)) := fun hns h r hxe hp hb => by
  obtain ⟨σ', hX, W', K⟩ := into_note (n := n + 2) H W h57 h221 h217 ho hx
  have ht : Tst C (n + 4) (.cmp .Eq (.sub (.var 221) (.lit (.int 0))) (.lit (.str 202))) ρ σ false σ := by
   have := ev_head (C := C) (n := n + 4) (σ := σ) (h := h) (r := r) (i := 202) (hxe ▸ h221) hp (by decide)
   rwa [hb] at this
  exact ⟨σ', _, .cons (.ite_f ht .nil) (.cons hX .nil), W', K, Same.put .., fun k e => absurd e (hns k), put_T.mpr (.inr ⟨rfl, rfl⟩), fun Z hz _ hk => put_sub W.ok hz hk⟩
 have hx' := hx
 cases hx with
 | outer hj => exact nosite (fun k => sv_ne_ov) (.str 162) _ rfl (by decide) (by decide)
 | beyond => exact nosite (fun k => bv_ne_sv) (.str 54) _ rfl (by decide) (by decide)
 | @site k hk =>
  have W₁ : BookAt (σ ++ [.list [sv k]]) B S := W.keep0 (Kp.new ..)
  obtain ⟨σ₂, S₂, hc, W₂, K₂, hL⟩ := law_out_spec (n := n) (t := σ.length) (ts := [sv k]) H W₁ ⟨get_new _ _, by simpa using hx'⟩ (by simp)
  rw [mem_one] at hL
  obtain ⟨σ₃, hX, W₃, K₃⟩ := into_note (n := n + 2) (o := o) H W₂ h57 h221 h217 ho hx'
  rw [hL.same.tabs] at K₃
  have hsub : Sub S₂ (S₂.put S₂.kept (addM (S₂.T S₂.kept) (.tup [.int (code (sv k)), .int o]))) := (Same.put ..).sub
  refine ⟨σ₃, _, .cons (.ite_t (ev_head (h := .str 202) (r := [.str k]) h221 (by decide) (by decide)) (.cons (.expr (.call (gl_law_out H) (ke_law_out H) (.cons (.var h57) (.cons (.list (.cons (.var h221) .nil)) .nil)) hc)) .nil)) (.cons hX .nil),
   W₃, ((Kp.new _ σ _).trans' K₂).trans' K₃, hL.same.trans (Same.put ..), fun k' e => hL.out.mono (Sub.refl S) hsub fun _ h => h, put_T.mpr (.inr ⟨rfl, rfl⟩), fun Z hz hout hk => put_sub W₂.ok (hL.sub W.ok hz (hout k rfl)) hk⟩
theorem into_outer (H : L1 C) (W : BookAt σ B S) (ht : LRow σ t ts) (hlen : ts.length ≤ 100) (ho : o ∈ [(0 : Int), 1]) (h57 : alook ρ 57 = some (.loc B.b)) (h222 : alook ρ 222 = some (.loc t)) (h217 : alook ρ 217 = some (ov o)) :
  E3 fun ρ' σ' S' => N7 (X1 C (n + 4) (.for (.v 221) (.call (.glob 24) [.var 57, .var 222]) intoOut) ρ σ .next ρ' σ') (BookAt σ' B S') (Kp S.tabs σ σ') (Same S S') (Kept S S' (· ∈ ts) o) ((∀ Z, Sub S Z → Kept Z Z (· ∈ ts) o → Sub S' Z)) ((∀ j, j ≠ 221 → alook ρ' j = alook ρ j)) := by
 obtain ⟨σ₁, z, zs, hr, K₁, hz, hrow, hzn, hzm⟩ := law_all_spec (n := n + 1) H W ht hlen
 have W₁ := W.keep0 K₁
 have hit : ItEv C (n + 4) (.call (.glob 24) [.var 57, .var 222]) ρ σ zs (fun σ' => σ'[z]? = some (.list zs)) σ₁ :=
  .of (.call (gl_law_all H) (ke_law_all H) (.cons (.var h57) (.cons (.var h222) .nil)) hr) (.list hrow.1)
 have hzo : z ∉ S.tabs := fun q => by have := W.lt q; lia
 let J : List MV → List (Nat × MV) → MH → Prop := fun rem ρ' σ' => E2 fun done S' => N7 (zs = done ++ rem) (BookAt σ' B S') (Kp S.tabs σ₁ σ') (Same S S') ((∀ v ∈ done, (∀ k, v = sv k → Out S S' (· = v)) ∧ keptT S' (code v) o)) ((∀ Z, Sub S Z → Kept Z Z (· ∈ ts) o → Sub S' Z)) ((∀ j, j ≠ 221 → alook ρ' j = alook ρ j))
 obtain ⟨ρ', σ', hl, done, S', e, W', K', hs, hreq, hleast, hρ⟩ : E2 fun ρ' σ' => Loop C (n + 4) (.v 221) intoOut (fun σ' => σ'[z]? = some (.list zs)) zs ρ σ₁ .next ρ' σ' ∧ J [] ρ' σ' := by
  refine Loop.inv J ?_ ?_ zs ρ σ₁ ⟨[], S, rfl, W₁, Kp.refl .., Same.refl S, by simp, fun Z hz _ => hz, fun _ _ => rfl⟩
  ·rintro y rem ρ₁ σ₂ ⟨done, S₁, e, W₂, K₂, hs, hreq, hleast, hρ⟩
   refine ⟨K₂.keep _ _ hzo hrow.1, ?_⟩
   have hρ' : ∀ j, j ≠ 221 → alook (aset ρ₁ 221 y) j = alook ρ j := fun j hj => by rw [alook_aset_ne _ _ hj]; exact hρ j hj
   obtain ⟨σ₃, S₃, hX, W₃, K₃, hs₃, hout₃, hk₃, hl₃⟩ := into_turn (n := n) (ρ := aset ρ₁ 221 y) (x := y) H W₂ (by rw [hρ' _ (by decide)]; exact h57) (alook_aset_same ..) (by rw [hρ' _ (by decide)]; exact h217) ho (hrow.2 y (by rw [e]; simp))
   rw [hs.tabs] at K₃
   have hyR : Reach S (· ∈ ts) y := (hzm y).mp (by rw [e]; simp)
   refine ⟨_, .next, _, σ₃, rfl, hX, .inl rfl, done ++ [y], S₃, by rw [e]; simp, W₃, K₂.trans' K₃, hs.trans hs₃, fun v hv => ?_, fun Z hz hk => ?_, hρ'⟩
   ·rcases List.mem_append.mp hv with hv | hv
    ·exact ⟨fun k q => ((hreq v hv).1 k q).mono (Sub.refl S) hs₃.sub fun _ h => h, hs₃.sub.kept _ _ (hreq v hv).2⟩
    ·simp at hv; subst hv
     exact ⟨fun k q => (hout₃ k q).mono hs.sub (Sub.refl _) fun _ h => h, hk₃⟩
   ·have := hk y (hyR.mono hz fun _ h => h)
    exact hl₃ Z (hleast Z hz hk) (fun k q => by have := this.1 k q; rw [q]; exact this) this.2
  ·rintro ρ₁ σ₂ ⟨done, S₁, e, W₂, K₂, _⟩
   exact K₂.keep _ _ hzo hrow.1
 rw [List.append_nil] at e
 subst e
 exact ⟨ρ', σ', S', .for hit hl, W', (K₁.up).trans' K', hs, fun v hv => by
  have := hreq v ((hzm v).mpr hv)
  exact ⟨fun k q => by have := this.1 k q; rw [q] at this; exact this, this.2⟩, hleast, hρ⟩
end
end Mine
namespace Mine
open PySem PySem.W PyProof.Rows PySem.Calls PySem.Spec PySem.SeqAt
structure BDo (S S' : TS) (R : TS → TS → Prop) : Prop where
 same : Same S S'
 req : R S S'
 least : ∀ Z, Sub S Z → R Z Z → Sub S' Z
section
variable {C : Cx} {n t m d k l w : Nat} {σ₀ σ σ' : MH} {B : BL} {S S' Z : TS} {u v x : MV} {ρ : List (Nat × MV)} {ts ms zs us : List MV} {e : IE} {o : Int}
theorem ev_hd {h : MV} {r : List MV} {i j : Nat} (hv : alook ρ j = some (.tup (h :: r))) (hp : pv h 8 = true) (hi : i < tabN) : Tst C n (.cmp .Eq (.sub (.var j) (.lit (.int 0))) (.lit (.str i))) ρ σ (h.beq (.str i)) σ :=
 Tst.cmp (ev_item0 (.var hv)) .lit (Op.eq hp (by simp [pv, Nat.blt]; lia))
theorem putI_ins (W : TOK S) (hl : (k, l) ∈ S.inside) (j : Nat) (u : MV) : insT (S.put l (addAll (S.T l) ts)) j u ↔ insT S j u ∨ (j = k ∧ u ∈ ts) := by
 constructor
 ·rintro ⟨l', a, b⟩
  have a' : (j, l') ∈ S.inside := a
  rcases putAll_T.mp b with b | ⟨rfl, h⟩
  ·exact .inl ⟨l', a', b⟩
  ·exact .inr ⟨ins_uniq W a' hl, h⟩
 ·rintro (⟨l', a, b⟩ | ⟨rfl, h⟩)
  ·exact ⟨l', a, putAll_T.mpr (.inl b)⟩
  ·exact ⟨l, hl, putAll_T.mpr (.inr ⟨rfl, h⟩)⟩
theorem putI_gone (W : TOK S) (hl : (k, l) ∈ S.inside) (j : Nat) : goneT (S.put l (addAll (S.T l) ts)) j ↔ goneT S j := by
 obtain ⟨p1, p2, p3, p4, p5, p6, p7⟩ := tab_apart W
 have q7 := p7 l (.inr (List.mem_map.mpr ⟨_, hl, rfl⟩))
 exact ⟨fun q => (putAll_T.mp q).resolve_right fun e => q7.2.1 e.1.symm, fun q => putAll_T.mpr (.inl q)⟩
theorem putAll_sub (W : TOK S) (h : ∀ v ∈ ts, Takes S t v) (hz : Sub S Z) (hs : ∀ S' k, Same S S' → TOK S' → Sub S' Z → k ∈ ts → Sub (S'.put t (addM (S'.T t) k)) Z) : Sub (S.put t (addAll (S.T t) ts)) Z := by
 have := putAll_ind (P := fun S' => Same S S' ∧ TOK S' ∧ Sub S' Z) (S := S) (t := t) (ms := ts) ⟨Same.refl S, W, hz⟩ fun S' k h1 ⟨_, h2, h3⟩ hk => ⟨h1.trans (Same.put ..), h2.put ?_, hs S' k h1 h2 h3 hk⟩
 ·exact this.2.2
 ·have := h k hk
  unfold Takes at this ⊢
  rw [h1.held, h1.inside, h1.sites, h1.gone, h1.leaks, h1.kept]; exact this
theorem putI_sub (W : TOK S) (hl : (k, l) ∈ S.inside) (ht : ∀ v ∈ ts, TokOk v) (hz : Sub S Z) (h : ∀ v ∈ ts, insT Z k v) : Sub (S.put l (addAll (S.T l) ts)) Z :=
 putAll_sub W (fun v hv => .inl ⟨.inr (List.mem_map.mpr ⟨_, hl, rfl⟩), ht v hv⟩) hz fun S' v h1 h2 h3 hv => put_ins h2 (h1.inside ▸ hl) h3 (h v hv)
theorem putH_sub {r : Int} (W : TOK S) (hl : (r, l) ∈ S.held) (ht : ∀ v ∈ ts, TokOk v) (hz : Sub S Z) (h : ∀ v ∈ ts, heldT Z r v) : Sub (S.put l (addAll (S.T l) ts)) Z :=
 putAll_sub W (fun v hv => .inl ⟨.inl (List.mem_map.mpr ⟨_, hl, rfl⟩), ht v hv⟩) hz fun S' v h1 h2 h3 hv => put_held h2 (h1.held ▸ hl) h3 (h v hv)
noncomputable abbrev intoBody : List IS := [
  .ite (.cmp .Eq (.sub (.var 217) (.lit (.int 0))) (.lit (.str 54))) [
   .expr (.call (.glob 35) [.var 57, .var 222])] [
   .ite (.cmp .Eq (.sub (.var 217) (.lit (.int 0))) (.lit (.str 202))) [
    .expr (.call (.glob 23) [.sub (.sub (.var 57) (.lit (.str 104))) (.sub (.var 217) (.lit (.int 1))), .var 222]),
    .ite (.cmp .In (.sub (.var 217) (.lit (.int 1))) (.sub (.var 57) (.lit (.str 97)))) [
     .expr (.call (.glob 35) [.var 57, .var 222])] []] [
    .for (.v 221) (.call (.glob 24) [.var 57, .var 222]) intoOut]]]
theorem intoBody_turn (H : L1 C) (W : BookAt σ B S) (ht : LRow σ t ts) (hto : t ∉ S.tabs) (hlen : ts.length ≤ 100) (h57 : alook ρ 57 = some (.loc B.b)) (h222 : alook ρ 222 = some (.loc t)) (h217 : alook ρ 217 = some x) (hx : TokOk x) :
  E3 fun ρ' σ' S' => N5 (Xs C (n + 4) intoBody ρ σ .next ρ' σ') (BookAt σ' B S') (Kp S.tabs σ σ') (BDo S S' (fun S Z => PutReq S Z x (· ∈ ts))) ((∀ j, j ≠ 221 → alook ρ' j = alook ρ j)) := by
 have hx' := hx
 cases hx with
 | beyond =>
  obtain ⟨σ', S', hc, W', K, hL⟩ := law_out_spec (n := n) H W ht hlen
  exact ⟨ρ, σ', S', .cons (.ite_t (ev_hd (h := .str 54) (r := []) h217 (by decide) (by decide)) (.cons (.expr (.call (gl_law_out H) (ke_law_out H) (.cons (.var h57) (.cons (.var h222) .nil)) hc)) .nil)) .nil, W', K, ⟨hL.same, ⟨fun _ => hL.out, fun o e => absurd e.symm ov_ne_bv, fun k e => absurd e bv_ne_sv⟩, fun Z hz hq => hL.sub W.ok hz (hq.1 rfl)⟩, fun _ _ => rfl⟩
 | @outer j hj =>
  obtain ⟨ρ', σ', S', hX, W', K, hs, hk, hl, hρ⟩ := into_outer (n := n) H W ht hlen hj h57 h222 h217
  exact ⟨ρ', σ', S', .cons (.ite_f (ev_hd (h := .str 162) (r := [.int j]) h217 (by decide) (by decide)) (.cons (.ite_f (ev_hd (h := .str 162) (r := [.int j]) h217 (by decide) (by decide)) (.cons hX .nil)) .nil)) .nil, W', K, ⟨hs, ⟨fun e => absurd e ov_ne_bv, fun o e => by rw [← ov_inj e]; exact hk, fun k e => absurd e sv_ne_ov⟩, fun Z hz hq => hl Z hz (hq.2.1 j rfl)⟩, hρ⟩
 | @site k hk =>
  have e1 : Ev C (n + 4) (.sub (.var 217) (.lit (.int 1))) ρ σ (.str k) σ := ev_item1 (.var h217)
  obtain ⟨l, hev, hl, _⟩ := ev_binside_at (n := n + 3) W h57 hk e1
  have htk : ∀ v ∈ ts, Takes S l v := fun v hv => .inl ⟨.inr (List.mem_map.mpr ⟨_, hl, rfl⟩), ht.2 v hv⟩
  obtain ⟨σ₁, hc₁, W₁, K₁⟩ := book_add (n := n + 2) H W (ins_tab hl) htk ht.1 hto hlen
  have hs₁ : Same S (S.put l (addAll (S.T l) ts)) := Same.putAll
  have hg₁ := putI_gone (ts := ts) W.ok hl
  have hi₁ := putI_ins (ts := ts) W.ok hl
  have hb₁ := fun (Z : TS) (hz : Sub S Z) h => putI_sub (Z := Z) W.ok hl ht.2 hz h
  have hreq₁ : ∀ v ∈ ts, insT (S.put l (addAll (S.T l) ts)) k v := fun v hv => (hi₁ k v).mpr (.inr ⟨rfl, hv⟩)
  generalize S.put l (addAll (S.T l) ts) = S₁ at W₁ hs₁ hg₁ hi₁ hb₁ hreq₁
  have ht₁ : LRow σ₁ t ts := ⟨K₁.keep _ _ hto ht.1, ht.2⟩
  have e2 : Ev C (n + 4) (.sub (.var 217) (.lit (.int 1))) ρ σ₁ (.str k) σ₁ := ev_item1 (.var h217)
  have hin : Tst C (n + 4) (.cmp .In (.sub (.var 217) (.lit (.int 1))) (.sub (.var 57) (.lit (.str 97)))) ρ σ₁ (hasM (S₁.T S₁.gone) (.str k)) σ₁ :=
   .cmp e2 (ev_bgone W₁ h57) (Op.inL (W₁.tab _ (gone_tab S₁)) (pv_site hk) (pvs_sites W₁.ok))
  have hX₁ : X1 C (n + 4) (.expr (.call (.glob 23) [.sub (.sub (.var 57) (.lit (.str 104))) (.sub (.var 217) (.lit (.int 1))), .var 222])) ρ σ .next ρ σ₁ := .expr (.call (gl_law_add H) (ke_law_add H) (.cons hev (.cons (.var h222) .nil)) hc₁)
  have noreq : ∀ {Z Z' : TS}, (∀ v, v ∈ ts → insT Z' k v) → (goneT Z k → Out Z Z' (· ∈ ts)) → PutReq Z Z' (sv k) (· ∈ ts) := fun h1 h2 =>
   ⟨fun e => absurd e.symm bv_ne_sv, fun o e => absurd e.symm sv_ne_ov, fun k' e => by rw [← sv_inj e]; exact ⟨h1, h2⟩⟩
  by_cases hgone : hasM (S₁.T S₁.gone) (.str k) = true
  ·rw [hgone] at hin
   have hgk : goneT S k := (hg₁ k).mp (hasM_iff.mp hgone)
   obtain ⟨σ₂, S₂, hc₂, W₂, K₂, hL⟩ := law_out_spec (n := n) H W₁ ht₁ hlen
   rw [hs₁.tabs] at K₂
   exact ⟨ρ, σ₂, S₂, .cons (.ite_f (ev_hd (h := .str 202) (r := [.str k]) h217 (by decide) (by decide)) (.cons (.ite_t (ev_hd (h := .str 202) (r := [.str k]) h217 (by decide) (by decide)) (.cons hX₁ (.cons (.ite_t hin (.cons (.expr (.call (gl_law_out H) (ke_law_out H) (.cons (.var h57) (.cons (.var h222) .nil)) hc₂)) .nil)) .nil))) .nil)) .nil, W₂, K₁.trans' K₂,
    ⟨hs₁.trans hL.same, noreq (fun v hv => hL.same.sub.ins _ _ (hreq₁ v hv)) fun _ => hL.out.mono hs₁.sub (Sub.refl _) fun _ h => h, fun Z hz hq => by
     have hq' := hq.2.2 k rfl
     exact hL.sub W₁.ok (hb₁ Z hz hq'.1) (hq'.2 (hz.gone k hgk))⟩, fun _ _ => rfl⟩
  ·have hng : hasM (S₁.T S₁.gone) (.str k) = false := by simpa using hgone
   rw [hng] at hin
   have hgk : ¬ goneT S k := fun q => hgone (hasM_iff.mpr ((hg₁ k).mpr q))
   exact ⟨ρ, σ₁, S₁, .cons (.ite_f (ev_hd (h := .str 202) (r := [.str k]) h217 (by decide) (by decide)) (.cons (.ite_t (ev_hd (h := .str 202) (r := [.str k]) h217 (by decide) (by decide)) (.cons hX₁ (.cons (.ite_f hin .nil) .nil))) .nil)) .nil, W₁, K₁,
    ⟨hs₁, noreq hreq₁ fun q => absurd q hgk, fun Z hz hq => hb₁ Z hz (hq.2.2 k rfl).1⟩, fun _ _ => rfl⟩
theorem law_into_spec (H : L1 C) (W : BookAt σ B S) (hu : LRow σ w us) (huo : w ∉ S.tabs) (ht : LRow σ t ts) (hto : t ∉ S.tabs) (hlen : ts.length ≤ 100) :
  E2 fun σ' S' => N4 (CallEv C (n + 5) (.ref 319) [.loc B.b, .loc w, .loc t] σ .none σ') (BookAt σ' B S') (Kp S.tabs σ σ') (BDo S S' (fun S Z => ∀ x ∈ us, PutReq S Z x (· ∈ ts))) := by
 let ρ₀ : List (Nat × MV) := [(57, .loc B.b), (218, .loc w), (222, .loc t)]
 let J : List MV → List (Nat × MV) → MH → Prop := fun rem ρ' σ' => E2 fun done S' => N8 (us = done ++ rem) (BookAt σ' B S') (Kp S.tabs σ σ') (Same S S') ((∀ x ∈ done, PutReq S S' x (· ∈ ts))) ((∀ Z, Sub S Z → (∀ x ∈ us, PutReq Z Z x (· ∈ ts)) → Sub S' Z)) (alook ρ' 57 = some (.loc B.b)) (alook ρ' 222 = some (.loc t))
 obtain ⟨ρ', σ', hlp, done, S', e', W', K', hgr, hreq, hleast, _⟩ : E2 fun ρ' σ' => Loop C (n + 4) (.v 217) intoBody (fun σ' => σ'[w]? = some (.list us)) us ρ₀ σ .next ρ' σ' ∧ J [] ρ' σ' := by
  refine Loop.inv J ?_ ?_ us ρ₀ σ ⟨[], S, rfl, W, Kp.refl .., Same.refl _, by simp, fun Z hz _ => hz, rfl, rfl⟩
  ·rintro y rem ρ₁ σ₂ ⟨done, S₂, e', W₂, K₂, hgr, hreq, hleast, h1, h2⟩
   refine ⟨K₂.keep _ _ huo hu.1, ?_⟩
   obtain ⟨ρ₃, σ₃, S₃, hX, W₃, K₃, hD, hρ⟩ := intoBody_turn (n := n) (ρ := aset ρ₁ 217 y) (x := y) H W₂ ⟨K₂.keep _ _ hto ht.1, ht.2⟩ (hgr.tabs ▸ hto) hlen (look_ne h1 (by decide)) (look_ne h2 (by decide)) (alook_aset_same ..) (hu.2 y (by rw [e']; simp))
   rw [hgr.tabs] at K₃
   refine ⟨_, .next, ρ₃, σ₃, rfl, hX, .inl rfl, done ++ [y], S₃, by rw [e']; simp, W₃, K₂.trans' K₃, hgr.trans hD.same, fun x hx => ?_, fun Z hz hq => hD.least Z (hleast Z hz hq) (hq y (by rw [e']; simp)), by rw [hρ 57 (by decide), alook_aset_ne _ _ (by decide)]; exact h1, by rw [hρ 222 (by decide), alook_aset_ne _ _ (by decide)]; exact h2⟩
   rcases List.mem_append.mp hx with hx | hx
   ·exact (hreq x hx).up (Sub.refl S) hD.same.sub
   ·simp at hx; subst hx
    exact hD.req.up hgr.sub (Sub.refl _)
  ·rintro ρ₁ σ₂ ⟨done, S₂, e', W₂, K₂, _⟩
   exact K₂.keep _ _ huo hu.1
 rw [List.append_nil] at e'
 subst e'
 exact ⟨σ', S', .fn (fn_law_into H) (.cons (.for (.of (.var rfl) (.list hu.1)) hlp) .nil) (.inr ⟨rfl, rfl⟩), W', K', hgr, hreq, hleast⟩
end
end Mine
namespace Mine
open PySem PySem.W PyProof.Rows PySem.Calls PySem.Spec PySem.SeqAt
noncomputable def DeedR (w : Nat) (a b : Int) (s : Nat) (S Z : TS) : Prop :=
 (w = 137 → siteT Z s ∧ heldT Z a (sv s)) ∧ (w = 148 → ∀ v, heldT S b v → heldT Z a v) ∧ (w = 125 → ∀ v, (∃ u, heldT S b u ∧ Loads S u v) → heldT Z a v) ∧
 (w = 161 → Out S Z (heldT S b)) ∧ (w = 169 → ∀ x, heldT S a x → PutReq S Z x (heldT S b)) ∧ (w = 54 → PutReq S Z bv (heldT S b))
noncomputable def words : List Nat := [137, 148, 125, 161, 169, 54]
noncomputable def deedV (w : Nat) (a b : Int) (s : Nat) : MV := .tup [.str w, .int a, .int b, .str s]
theorem DeedR.make {w : Nat} {a b : Int} {s : Nat} {S Z : TS} (e : w = 137) (h : siteT Z s ∧ heldT Z a (sv s)) : DeedR w a b s S Z := by
 subst e; exact ⟨fun _ => h, nofun, nofun, nofun, nofun, nofun⟩
theorem DeedR.move {w : Nat} {a b : Int} {s : Nat} {S Z : TS} (e : w = 148) (h : ∀ v, heldT S b v → heldT Z a v) : DeedR w a b s S Z := by
 subst e; exact ⟨nofun, fun _ => h, nofun, nofun, nofun, nofun⟩
theorem DeedR.load {w : Nat} {a b : Int} {s : Nat} {S Z : TS} (e : w = 125) (h : ∀ v, (∃ u, heldT S b u ∧ Loads S u v) → heldT Z a v) : DeedR w a b s S Z := by
 subst e; exact ⟨nofun, nofun, fun _ => h, nofun, nofun, nofun⟩
theorem DeedR.out {w : Nat} {a b : Int} {s : Nat} {S Z : TS} (e : w = 161) (h : Out S Z (heldT S b)) : DeedR w a b s S Z := by
 subst e; exact ⟨nofun, nofun, nofun, fun _ => h, nofun, nofun⟩
theorem DeedR.put {w : Nat} {a b : Int} {s : Nat} {S Z : TS} (e : w = 169) (h : ∀ x, heldT S a x → PutReq S Z x (heldT S b)) : DeedR w a b s S Z := by
 subst e; exact ⟨nofun, nofun, nofun, nofun, fun _ => h, nofun⟩
theorem DeedR.beyond {w : Nat} {a b : Int} {s : Nat} {S Z : TS} (e : w = 54) (h : PutReq S Z bv (heldT S b)) : DeedR w a b s S Z := by
 subst e; exact ⟨nofun, nofun, nofun, nofun, nofun, fun _ => h⟩
theorem PutReq.sub {S Z : TS} {x : MV} {P Q : MV → Prop} (h : PutReq S Z x P) (hp : ∀ v, Q v → P v) : PutReq S Z x Q := by
 refine ⟨fun e => (h.1 e).mono (Sub.refl _) (Sub.refl _) hp, fun o e v hv => h.2.1 o e v (hv.mono (Sub.refl _) hp), fun k e => ⟨fun v hv => (h.2.2 k e).1 v (hp v hv), fun g => ((h.2.2 k e).2 g).mono (Sub.refl _) (Sub.refl _) hp⟩⟩
section
variable {C : Cx} {n t m d k l : Nat} {σ₀ σ σ' : MH} {B : BL} {S S' Z : TS} {u v x : MV} {ρ : List (Nat × MV)} {ts ms zs us : List MV} {e : IE} {a b r : Int} {w s : Nat}
theorem heldT_iff (W : TOK S) (hl : (r, l) ∈ S.held) : ∀ v, v ∈ S.T l ↔ heldT S r v := fun v => ⟨fun h => ⟨l, hl, h⟩, fun ⟨l', h1, h2⟩ => by
 have := find_key W.keysH h1
 rw [find_key W.keysH hl] at this
 cases this; exact h2⟩
theorem ev_word {i : Nat} (h : alook ρ 233 = some (.str w)) (hw : w < tabN) (hi : i < tabN) : Tst C n (.cmp .Eq (.var 233) (.lit (.str i))) ρ σ ((MV.str w).beq (.str i)) σ :=
 Tst.cmp (.var h) .lit (Op.eq (by simp [pv, Nat.blt]; lia) (by simp [pv, Nat.blt]; lia))
theorem book_copy (H : L1 C) (W : BookAt σ B S) (h : alook ρ 57 = some (.loc B.b)) (hr : 0 ≤ r ∧ r < 6) (he : Ev C (n + 1) e ρ σ (.int r) σ) :
  ∃ ts, N4 (Ev C (n + 1) (.call (.glob 124) [.sub (.sub (.var 57) (.lit (.str 101))) e]) ρ σ (.loc σ.length) (σ ++ [.list ts])) (LRow (σ ++ [.list ts]) σ.length ts) (ts.length ≤ 7) (∀ v, v ∈ ts ↔ heldT S r v) := by
 obtain ⟨l, hev, hl, hT⟩ := ev_bheld_at W h hr he
 exact ⟨S.T l, .call (gl_list H) (.inl fun _ q => by cases q) (.cons hev .nil) (CallEv.listL hT), ⟨get_new .., W.ok.toks l (.inl (List.mem_map.mpr ⟨_, hl, rfl⟩))⟩, W.ok.length (held_tab hl), heldT_iff W.ok hl⟩
noncomputable abbrev doneBody : List IS := [
 .ite (.cmp .Eq (.var 233) (.lit (.str 137))) [
  .expr (.call (.glob 23) [.sub (.var 57) (.lit (.str 203)), .list [.var 202]]),
  .expr (.call (.glob 23) [.sub (.sub (.var 57) (.lit (.str 101))) (.var 156), .list [.tup [.lit (.str 202), .var 202]]])] [
  .ite (.cmp .In (.var 233) (.list [.lit (.str 148), .lit (.str 125)])) [
   .expr (.call (.glob 23) [.sub (.sub (.var 57) (.lit (.str 101))) (.var 156), .ite (.cmp .Eq (.var 233) (.lit (.str 148))) (.var 222) (.call (.glob 39) [.var 57, .var 222])])] [
   .ite (.cmp .Eq (.var 233) (.lit (.str 161))) [
    .expr (.call (.glob 35) [.var 57, .var 222])] [
    .expr (.call (.glob 30) [.var 57, .ite (.cmp .Eq (.var 233) (.lit (.str 54))) (.list [.tup [.lit (.str 54)]]) (.call (.glob 124) [.sub (.sub (.var 57) (.lit (.str 101))) (.var 156)]), .var 222])]]]]
theorem done_body (H : L1 C) (W : BookAt σ B S) (hw : w ∈ words) (ha : 0 ≤ a ∧ a < 6) (hs : s ∈ [48, 53, 59, 76]) (ht : LRow σ t ts) (hto : t ∉ S.tabs) (hlen : ts.length ≤ 7) (hT : ∀ v, v ∈ ts ↔ heldT S b v)
  (h57 : alook ρ 57 = some (.loc B.b)) (h233 : alook ρ 233 = some (.str w)) (h156 : alook ρ 156 = some (.int a)) (h202 : alook ρ 202 = some (.str s)) (h222 : alook ρ 222 = some (.loc t)) :
  E2 fun σ' S' => N4 (Xs C (n + 5) doneBody ρ σ .next ρ σ') (BookAt σ' B S') (Kp S.tabs σ σ') (BDo S S' (DeedR w a b s)) := by
 have hwt : w < tabN := by simp [words] at hw; rcases hw with rfl | rfl | rfl | rfl | rfl | rfl <;> decide
 have hword : ∀ {σ : MH} {i : Nat}, i < tabN → Tst C (n + 5) (.cmp .Eq (.var 233) (.lit (.str i))) ρ σ ((MV.str w).beq (.str i)) σ := fun hi => ev_word h233 hwt hi
 have up : ∀ {Z : TS}, Sub S Z → ∀ v, v ∈ ts → heldT Z b v := fun hz v hv => hz.held _ _ ((hT v).mp hv)
 have hin : Tst C (n + 5) (.cmp .In (.var 233) (.list [.lit (.str 148), .lit (.str 125)])) ρ σ ([MV.str 148, MV.str 125].any fun y => y.beq (.str w)) (σ ++ [.list [.str 148, .str 125]]) :=
  .cmp (.var h233) (.list (.cons .lit (.cons .lit .nil))) (Op.inL (get_new ..) (by simp [pv, Nat.blt]; lia) (by decide))
 have K₁ : Kp [] σ (σ ++ [.list [.str 148, .str 125]]) := Kp.new ..
 have W₁ := W.keep0 K₁
 have ht₁ : LRow (σ ++ [.list [.str 148, .str 125]]) t ts := ⟨K₁.get ht.1, ht.2⟩
 generalize hσ₁ : σ ++ [MO.list [.str 148, .str 125]] = σ₁ at hin K₁ W₁ ht₁
 have giving : ∀ {eV : IE} {m : Nat} {ms : List MV} {σ₂ : MH}, Ev C (n + 5) eV ρ σ₁ (.loc m) σ₂ → Kp [] σ₁ σ₂ → LRow σ₂ m ms → m ∉ S.tabs → ms.length ≤ 100 →
   E2 fun σ₃ l => N5 (X1 C (n + 5) (.expr (.call (.glob 23) [.sub (.sub (.var 57) (.lit (.str 101))) (.var 156), eV])) ρ σ₁ .next ρ σ₃) (BookAt σ₃ B (S.put l (addAll (S.T l) ms))) (Kp S.tabs σ σ₃) ((a, l) ∈ S.held) (∀ v ∈ ms, TokOk v) := fun {eV m ms σ₂} he K hr ho hl => by
  obtain ⟨l, hev, hal, _⟩ := ev_bheld_at (n := n + 4) W₁ h57 ha (.var h156)
  obtain ⟨σ₃, hc, W₃, K₃⟩ := book_add (n := n + 3) (t := l) H (W₁.keep0 K) (held_tab hal) (fun v hv => .inl ⟨.inl (List.mem_map.mpr ⟨_, hal, rfl⟩), hr.2 v hv⟩) hr.1 ho hl
  exact ⟨σ₃, l, .expr (.call (gl_law_add H) (ke_law_add H) (.cons hev (.cons he .nil)) hc), W₃, ((K₁.trans' K).up).trans' K₃, hal, hr.2⟩
 have gives : ∀ {l : Nat} {ms : List MV}, (a, l) ∈ S.held → ∀ v ∈ ms, heldT (S.put l (addAll (S.T l) ms)) a v := fun {l ms} hl v hv => ⟨l, hl, putAll_T.mpr (.inr ⟨rfl, hv⟩)⟩
 simp only [words, List.mem_cons, List.not_mem_nil, or_false] at hw
 rcases hw with rfl | rfl | rfl | rfl | rfl | rfl
 ·-- make
  obtain ⟨σ₂, hX₂, W₂, K₂⟩ := book_one (n := n + 3) (eV := .var 202) H W (t := S.sites) (v := .str s) (.inr (.inl ⟨rfl, s, hs, rfl⟩)) (ev_bsites W h57) (.var h202)
  obtain ⟨l, hev, hal, _⟩ := ev_bheld_at (n := n + 4) W₂ h57 ha (.var h156)
  obtain ⟨σ₃, hX₃, W₃, K₃⟩ := book_one (n := n + 3) (eV := .tup [.lit (.str 202), .var 202]) H W₂ (t := l) (v := sv s) (.inl ⟨.inl (List.mem_map.mpr ⟨_, hal, rfl⟩), .site hs⟩) hev (.tup (.cons .lit (.cons (.var h202) .nil)))
  refine ⟨σ₃, _, .cons (.ite_t (hword (i := 137) (by decide)) (.cons hX₂ (.cons hX₃ .nil))) .nil, W₃, K₂.trans' K₃, (Same.put ..).trans (Same.put ..), .make rfl ⟨(Same.put ..).sub.site s (put_T.mpr (.inr ⟨rfl, rfl⟩)), l, hal, put_T.mpr (.inr ⟨rfl, rfl⟩)⟩, fun Z hz hq => ?_⟩
  exact put_held W₂.ok hal (put_site W.ok hz (hq.1 rfl).1) (hq.1 rfl).2
 ·-- move
  obtain ⟨σ₂, l, hX, W₂, K₂, hl, hms⟩ := giving (eV := .ite (.cmp .Eq (.var 233) (.lit (.str 148))) (.var 222) (.call (.glob 39) [.var 57, .var 222])) (.iteT (hword (i := 148) (by decide)) (.var h222)) (Kp.refl ..) ht₁ hto (by lia)
  exact ⟨σ₂, _, .cons (.ite_f (hword (i := 137) (by decide)) (.cons (.ite_t hin (.cons hX .nil)) .nil)) .nil, W₂, K₂, Same.putAll, .move rfl fun v hv => gives hl v ((hT v).mpr hv), fun Z hz hq => putH_sub W.ok hl hms hz fun v hv => hq.2.1 rfl v (up hz v hv)⟩
 ·-- load
  obtain ⟨σ₂, q, ms, hc, K, hql, hr, hn, hm⟩ := law_read_spec (n := n + 2) H W₁ ht₁
  obtain ⟨σ₂, l, hX, W₂, K₂, hl, hms⟩ := giving (eV := .ite (.cmp .Eq (.var 233) (.lit (.str 148))) (.var 222) (.call (.glob 39) [.var 57, .var 222])) (.iteF (hword (i := 148) (by decide)) (.call (gl_law_read H) (ke_law_read H) (.cons (.var h57) (.cons (.var h222) .nil)) hc)) K hr (fun h => by have := W₁.lt h; lia) (by have := toks_short hn hr.2; lia)
  refine ⟨σ₂, _, .cons (.ite_f (hword (i := 137) (by decide)) (.cons (.ite_t hin (.cons hX .nil)) .nil)) .nil, W₂, K₂, Same.putAll, .load rfl fun v ⟨u, hu, hL⟩ => gives hl v ((hm v).mpr ⟨u, (hT u).mpr hu, hL⟩), fun Z hz hq => putH_sub W.ok hl hms hz fun v hv => ?_⟩
  obtain ⟨u, hu, hL⟩ := (hm v).mp hv
  exact hq.2.2.1 rfl v ⟨u, up hz u hu, hL.imp (fun h => h.mono hz) id⟩
 ·-- out
  obtain ⟨σ₂, S₂, hc, W₂, K₂, hL⟩ := law_out_spec (n := n + 1) H W₁ ht₁ (by lia)
  exact ⟨σ₂, S₂, .cons (.ite_f (hword (i := 137) (by decide)) (.cons (.ite_f hin (.cons (.ite_t (hword (i := 161) (by decide)) (.cons (.expr (.call (gl_law_out H) (ke_law_out H) (.cons (.var h57) (.cons (.var h222) .nil)) hc)) .nil)) .nil)) .nil)) .nil, W₂, (K₁.up).trans' K₂, hL.same, .out rfl (hL.out.mono (Sub.refl _) (Sub.refl _) fun v hv => (hT v).mpr hv), fun Z hz hq => hL.sub W.ok hz ((hq.2.2.2.1 rfl).mono (Sub.refl _) (Sub.refl _) (up hz))⟩
 ·-- put
  obtain ⟨us, hev, hu, hul, hU⟩ := book_copy (n := n + 4) H W₁ h57 ha (.var h156)
  have K₂ : Kp [] σ₁ (σ₁ ++ [.list us]) := Kp.new ..
  obtain ⟨σ₃, S₃, hc, W₃, K₃, hD⟩ := law_into_spec (n := n) H (W₁.keep0 K₂) hu (fun h => Nat.lt_irrefl _ (W₁.lt h)) ⟨K₂.get ht₁.1, ht.2⟩ hto (by lia)
  exact ⟨σ₃, S₃, .cons (.ite_f (hword (i := 137) (by decide)) (.cons (.ite_f hin (.cons (.ite_f (hword (i := 161) (by decide)) (.cons (.expr (.call (gl_law_into H) (ke_law_into H) (.cons (.var h57) (.cons (.iteF (hword (i := 54) (by decide)) hev) (.cons (.var h222) .nil))) hc)) .nil)) .nil)) .nil)) .nil, W₃, ((K₁.trans' K₂).up).trans' K₃, hD.same,
   .put rfl fun x hx => (hD.req x ((hU x).mpr hx)).sub fun v hv => (hT v).mpr hv, fun Z hz hq => hD.least Z hz fun x hx => (hq.2.2.2.2.1 rfl x (hz.held _ _ ((hU x).mp hx))).sub (up hz)⟩
 ·-- beyond
  have K₂ : Kp [] σ₁ (σ₁ ++ [.list [bv]]) := Kp.new ..
  obtain ⟨σ₃, S₃, hc, W₃, K₃, hD⟩ := law_into_spec (n := n) (w := σ₁.length) (us := [bv]) H (W₁.keep0 K₂) ⟨get_new .., fun v hv => by simp at hv; subst hv; exact .beyond⟩ (fun h => Nat.lt_irrefl _ (W₁.lt h)) ⟨K₂.get ht₁.1, ht.2⟩ hto (by lia)
  exact ⟨σ₃, S₃, .cons (.ite_f (hword (i := 137) (by decide)) (.cons (.ite_f hin (.cons (.ite_f (hword (i := 161) (by decide)) (.cons (.expr (.call (gl_law_into H) (ke_law_into H) (.cons (.var h57) (.cons (.iteT (hword (i := 54) (by decide)) (.list (.cons (.tup (.cons .lit .nil)) .nil))) (.cons (.var h222) .nil))) hc)) .nil)) .nil)) .nil)) .nil, W₃, ((K₁.trans' K₂).up).trans' K₃, hD.same,
   .beyond rfl ((hD.req bv (by simp)).sub fun v hv => (hT v).mpr hv), fun Z hz hq => hD.least Z hz fun x hx => by simp at hx; subst hx; exact (hq.2.2.2.2.2 rfl).sub (up hz)⟩
theorem law_done_spec (H : L1 C) (W : BookAt σ B S) (hw : w ∈ words) (ha : 0 ≤ a ∧ a < 6) (hb : 0 ≤ b ∧ b < 6) (hs : s ∈ [48, 53, 59, 76]) :
  E2 fun σ' S' => N4 (CallEv C (n + 6) (.ref 333) [.loc B.b, deedV w a b s] σ .none σ') (BookAt σ' B S') (Kp S.tabs σ σ') (BDo S S' (DeedR w a b s)) := by
 let ρ₁ : List (Nat × MV) := asets [(57, .loc B.b), (77, deedV w a b s)] [233, 156, 160, 202] [.str w, .int a, .int b, .str s]
 obtain ⟨ts, hev, ht, hl, hT⟩ := book_copy (C := C) (n := n + 4) (ρ := ρ₁) (e := .var 160) (r := b) H W rfl hb (.var rfl)
 have K₁ : Kp [] σ (σ ++ [.list ts]) := Kp.new ..
 obtain ⟨σ', S', hX, W', K', hD⟩ := done_body (n := n) (ρ := aset ρ₁ 222 (.loc σ.length)) (a := a) (b := b) H (W.keep0 K₁) hw ha hs ht (fun h => Nat.lt_irrefl _ (W.lt h)) hl hT rfl rfl rfl rfl rfl
 exact ⟨σ', S', .fn (fn_law_done H) (.cons (.sett (.var rfl)) (.cons (.setv hev) hX)) (.inr ⟨rfl, rfl⟩), W', (K₁.up).trans' K', hD⟩
end
end Mine
namespace Mine
open PySem PySem.W PyProof.Rows PySem.Calls PySem.Spec PySem.SeqAt
section
variable {C : Cx} {n t m d k l : Nat} {σ₀ σ σ' : MH} {L : FL} {S S' Z : TS} {u v x : MV} {ρ : List (Nat × MV)} {ts ms zs us : List MV} {e : IE} {a b r : Int} {w s : Nat}
theorem ev_methV (H : L1 C) (W : FlowAt σ L S) {j a : Nat} {f : Addr} {args : List IE} {vs : List MV} {σ₁ σ₂ : MH} (he : alook ρ j = some (.inst 208 L.f)) (ha : a ∉ [71, 213, 101, 104, 203, 97, 214, 108]) (hm : methB C.K 208 a f = true)
  (hargs : EvL C n args ρ σ vs σ₁) (hc : CallEv C n (.ref f) (.inst 208 L.f :: vs) σ₁ v σ₂) : Ev C n (.meth (.var j) a args) ρ σ v σ₂ := by
 obtain ⟨as, s1, s2⟩ := W.ns
 exact Ev.meth (.var he) s1 (W.only as s1 a ha) (cl_EscapeFlow H) hm hargs hc
noncomputable abbrev doBody : List IS := [
 .ite (.cmp .Eq (.var 233) (.lit (.str 137))) [
  .expr (.meth (.var 88) 137 [.var 156, .var 202])] [
  .ite (.cmp .Eq (.var 233) (.lit (.str 148))) [
   .expr (.meth (.var 88) 94 [.var 156, .var 222])] [
   .ite (.cmp .Eq (.var 233) (.lit (.str 125))) [
    .expr (.meth (.var 88) 94 [.var 156, .meth (.var 88) 126 [.var 222]])] [
    .ite (.cmp .Eq (.var 233) (.lit (.str 161))) [
     .expr (.meth (.var 88) 120 [.var 222])] [
     .expr (.meth (.var 88) 169 [.ite (.cmp .Eq (.var 233) (.lit (.str 54))) (.list [.tup [.lit (.str 54)]]) (.meth (.var 88) 223 [.tup [.lit (.str 176), .var 156]]), .var 222])]]]]]
theorem Grew.less {m m' : Nat} {S S' : TS} (h : Grew m' S S') (hm : m ≤ m') : Grew m S S' := ⟨h.held, h.inside, h.sites, h.gone, h.leaks, h.kept, h.pre, fun x hx => (h.new x hx).imp_right (Nat.le_trans hm)⟩
theorem do_body (H : L1 C) (W : FlowAt σ L S) (hw : w ∈ words) (ha : 0 ≤ a ∧ a < 6) (hs : s ∈ [48, 53, 59, 76]) (ht : LRow σ t ts) (hlen : ts.length ≤ 7) (hT : ∀ v, v ∈ ts ↔ heldT S b v)
  (h88 : alook ρ 88 = some (.inst 208 L.f)) (h233 : alook ρ 233 = some (.str w)) (h156 : alook ρ 156 = some (.int a)) (h202 : alook ρ 202 = some (.str s)) (h222 : alook ρ 222 = some (.loc t)) :
  E2 fun σ' S' => N4 (Xs C (n + 6) doBody ρ σ .next ρ σ') (FlowAt σ' L S') (Kp (own L S) σ σ') (Does σ.length S S' (DeedR w a b s)) := by
 have hwt : w < tabN := by simp [words] at hw; rcases hw with rfl | rfl | rfl | rfl | rfl | rfl <;> decide
 have hword : ∀ {i : Nat}, i < tabN → Tst C (n + 6) (.cmp .Eq (.var 233) (.lit (.str i))) ρ σ ((MV.str w).beq (.str i)) σ := fun hi => ev_word h233 hwt hi
 have up : ∀ {Z : TS}, Sub S Z → ∀ v, v ∈ ts → heldT Z b v := fun hz v hv => hz.held _ _ ((hT v).mp hv)
 simp only [words, List.mem_cons, List.not_mem_nil, or_false] at hw
 rcases hw with rfl | rfl | rfl | rfl | rfl | rfl
 ·-- make
  obtain ⟨σ₂, S₂, hc, W₂, K₂, hD⟩ := make_spec (n := n + 2) H W ha hs
  exact ⟨σ₂, S₂, .cons (.ite_t (hword (i := 137) (by decide)) (.cons (.expr (ev_methV H W h88 (by decide) (me_EscapeFlow_make H) (.cons (.var h156) (.cons (.var h202) .nil)) hc)) .nil)) .nil, W₂, K₂, hD.grew, .make rfl hD.req, fun Z hz hq => hD.least Z hz (hq.1 rfl), hD.ginv⟩
 ·-- move
  obtain ⟨σ₂, S₂, hc, W₂, K₂, hD⟩ := give_spec (n := n + 3) H W ht ha
  exact ⟨σ₂, S₂, .cons (.ite_f (hword (i := 137) (by decide)) (.cons (.ite_t (hword (i := 148) (by decide)) (.cons (.expr (ev_methV H W h88 (by decide) (me_EscapeFlow_give H) (.cons (.var h156) (.cons (.var h222) .nil)) hc)) .nil)) .nil)) .nil, W₂, K₂, hD.grew, .move rfl fun v hv => hD.req v ((hT v).mpr hv), fun Z hz hq => hD.least Z hz fun v hv => hq.2.1 rfl v (up hz v hv), hD.ginv⟩
 ·-- load
  obtain ⟨σ₁, q, ms, hc₁, K₁, hql, hr, hn, hm⟩ := loaded_spec (n := n + 4) H W ht
  obtain ⟨σ₂, S₂, hc, W₂, K₂, hD⟩ := give_spec (n := n + 3) H (W.keep K₁) hr ha
  refine ⟨σ₂, S₂, .cons (.ite_f (hword (i := 137) (by decide)) (.cons (.ite_f (hword (i := 148) (by decide)) (.cons (.ite_t (hword (i := 125) (by decide)) (.cons (.expr (ev_methV H W h88 (by decide) (me_EscapeFlow_give H) (.cons (.var h156) (.cons (ev_methV H W h88 (by decide) (me_EscapeFlow_loaded H) (.cons (.var h222) .nil) hc₁) .nil)) hc)) .nil)) .nil)) .nil)) .nil, W₂, (K₁.up).trans' K₂, hD.grew.less K₁.len, .load rfl fun v ⟨u, hu, hL⟩ => hD.req v ((hm v).mpr ⟨u, (hT u).mpr hu, hL⟩), fun Z hz hq => hD.least Z hz fun v hv => ?_, hD.ginv⟩
  obtain ⟨u, hu, hL⟩ := (hm v).mp hv
  exact hq.2.2.1 rfl v ⟨u, up hz u hu, hL.imp (fun h => h.mono hz) id⟩
 ·-- out
  obtain ⟨σ₂, S₂, hc, W₂, K₂, hL⟩ := leak_spec (n := n + 2) H W ht (by lia)
  exact ⟨σ₂, S₂, .cons (.ite_f (hword (i := 137) (by decide)) (.cons (.ite_f (hword (i := 148) (by decide)) (.cons (.ite_f (hword (i := 125) (by decide)) (.cons (.ite_t (hword (i := 161) (by decide)) (.cons (.expr (ev_methV H W h88 (by decide) (me_EscapeFlow_leak H) (.cons (.var h222) .nil) hc)) .nil)) .nil)) .nil)) .nil)) .nil, W₂, K₂, hL.same.grew, .out rfl (hL.out.mono (Sub.refl _) (Sub.refl _) fun v hv => (hT v).mpr hv), fun Z hz hq => hL.sub W.ok hz ((hq.2.2.2.1 rfl).mono (Sub.refl _) (Sub.refl _) (up hz)), hL.ginv W.ok⟩
 ·-- put
  obtain ⟨σ₁, q, us, hc₁, K₁, hql, hu, hn, hU⟩ := tokens_reg (n := n + 4) (r := a) H W
  obtain ⟨σ₂, S₂, hc, W₂, K₂, hD⟩ := put_spec (n := n) H (W.keep K₁) hu ⟨K₁.get ht.1, ht.2⟩ (by lia)
  exact ⟨σ₂, S₂, .cons (.ite_f (hword (i := 137) (by decide)) (.cons (.ite_f (hword (i := 148) (by decide)) (.cons (.ite_f (hword (i := 125) (by decide)) (.cons (.ite_f (hword (i := 161) (by decide)) (.cons (.expr (ev_methV H W h88 (by decide) (me_EscapeFlow_put H) (.cons (.iteF (hword (i := 54) (by decide)) (ev_methV H W h88 (by decide) (me_EscapeFlow_tokens_of H) (.cons (.tup (.cons .lit (.cons (.var h156) .nil))) .nil) hc₁)) (.cons (.var h222) .nil)) hc)) .nil)) .nil)) .nil)) .nil)) .nil, W₂, (K₁.up).trans' K₂, hD.grew.less K₁.len,
   .put rfl fun x hx => (hD.req x ((hU x).mpr hx)).sub fun v hv => (hT v).mpr hv, fun Z hz hq => hD.least Z hz fun x hx => (hq.2.2.2.2.1 rfl x (hz.held _ _ ((hU x).mp hx))).sub (up hz), hD.ginv⟩
 ·-- beyond
  have K₁ : Kp [] σ (σ ++ [.list [bv]]) := Kp.new ..
  obtain ⟨σ₂, S₂, hc, W₂, K₂, hD⟩ := put_spec (n := n) (w := σ.length) (us := [bv]) H (W.keep K₁) ⟨get_new .., fun v hv => by simp at hv; subst hv; exact .beyond⟩ ⟨K₁.get ht.1, ht.2⟩ (by lia)
  exact ⟨σ₂, S₂, .cons (.ite_f (hword (i := 137) (by decide)) (.cons (.ite_f (hword (i := 148) (by decide)) (.cons (.ite_f (hword (i := 125) (by decide)) (.cons (.ite_f (hword (i := 161) (by decide)) (.cons (.expr (ev_methV H W h88 (by decide) (me_EscapeFlow_put H) (.cons (.iteT (hword (i := 54) (by decide)) (.list (.cons (.tup (.cons .lit .nil)) .nil))) (.cons (.var h222) .nil)) hc)) .nil)) .nil)) .nil)) .nil)) .nil, W₂, (K₁.up).trans' K₂, hD.grew.less K₁.len,
   .beyond rfl ((hD.req bv (by simp)).sub fun v hv => (hT v).mpr hv), fun Z hz hq => hD.least Z hz fun x hx => by simp at hx; subst hx; exact (hq.2.2.2.2.2 rfl).sub (up hz), hD.ginv⟩
theorem law_do_spec (H : L1 C) (W : FlowAt σ L S) (hw : w ∈ words) (ha : 0 ≤ a ∧ a < 6) (hs : s ∈ [48, 53, 59, 76]) :
  E2 fun σ' S' => N4 (CallEv C (n + 7) (.ref 326) [.inst 208 L.f, deedV w a b s] σ .none σ') (FlowAt σ' L S') (Kp (own L S) σ σ') (Does σ.length S S' (DeedR w a b s)) := by
 let ρ₁ : List (Nat × MV) := asets [(88, .inst 208 L.f), (77, deedV w a b s)] [233, 156, 160, 202] [.str w, .int a, .int b, .str s]
 obtain ⟨σ₁, q, ts, hc, K₁, hql, ht, hn, hT⟩ := tokens_reg (n := n + 4) (r := b) H W
 have hev : Ev C (n + 6) (.meth (.var 88) 223 [.tup [.lit (.str 176), .var 160]]) ρ₁ σ (.loc q) σ₁ := ev_methV H W rfl (by decide) (me_EscapeFlow_tokens_of H) (.cons (.tup (.cons .lit (.cons (.var rfl) .nil))) .nil) hc
 obtain ⟨σ', S', hX, W', K', hD⟩ := do_body (n := n) (ρ := aset ρ₁ 222 (.loc q)) (a := a) (b := b) H (W.keep K₁) hw ha hs ht (toks_short hn ht.2) hT rfl rfl rfl rfl rfl
 exact ⟨σ', S', .fn (fn_law_do H) (.cons (.sett (.var rfl)) (.cons (.setv hev) hX)) (.inr ⟨rfl, rfl⟩), W', (K₁.up).trans' K', hD.grew.less K₁.len, hD.req, hD.least, hD.ginv⟩
end
end Mine
namespace Mine
open PySem PySem.W PyProof.Rows PySem.Calls PySem.Spec PySem.SeqAt
noncomputable def SizeAt (σ : MH) (l k : Nat) : Prop := (∃ ep es, σ[l]? = some (.dict ep es) ∧ es.length = k) ∨ ∃ xs, σ[l]? = some (.list xs) ∧ xs.length = k
noncomputable def TS.lens (S : TS) : List Int := (S.held.map fun e => ((S.T e.2).length : Int)) ++ S.inside.map fun e => ((S.T e.2).length : Int)
noncomputable def TS.lens3 (S : TS) : List Int := [S.gone, S.leaks, S.kept].map fun l => ((S.T l).length : Int)
noncomputable def TS.size (S : TS) : Int := sumI S.lens + sumI S.lens3
section
variable {C : Cx} {n h i l k ep : Nat} {σ τ σ' : MH} {S : TS} {ρ : List (Nat × MV)} {ys : List MV}
theorem SizeAt.keep (h : SizeAt σ l k) (K : Kp [] σ σ') : SizeAt σ' l k := by
 rcases h with ⟨ep, es, h1, h2⟩ | ⟨xs, h1, h2⟩
 ·exact .inl ⟨ep, es, K.get h1, h2⟩
 ·exact .inr ⟨xs, K.get h1, h2⟩
theorem SizeAt.len (h : SizeAt σ l k) : CallEv C n (.builtin "len") [.loc l] σ (.int k) σ := by
 rcases h with ⟨ep, es, h1, rfl⟩ | ⟨xs, h1, rfl⟩
 ·exact CallEv.lenD h1
 ·exact CallEv.lenL h1
theorem cl_sizes (H : L1 C) {es : List (MV × MV)} {en : List (MV × Nat)} {sz : Nat → Nat} (hes : es = en.map fun e => (e.1, .loc e.2)) (hd : τ[h]? = some (.dict ep es)) (hfit : ∀ e ∈ en, Fits es e.1) (hget : ∀ e ∈ en, dget es e.1 = some (.loc e.2)) (hsz : ∀ e ∈ en, SizeAt τ e.2 (sz e.2)) (hz : ys.length + en.length < 1000) (hρ : alook ρ 215 = some (.loc h)) :
  ∃ ρ', CL C (n + 1) (EmL C (n + 1) (.call (.glob 123) [.sub (.var 215) (.var 114)]) τ.length) [] [] [] (.v 114) [] (fun σ' => ∃ es', σ'[h]? = some (.dict ep es') ∧ es'.map (·.1) = es.map (·.1)) (es.map (·.1)) ρ (τ ++ [.list ys]) ρ' (τ ++ [.list (ys ++ en.map fun e => .int (sz e.2))]) := by
 have hkeys : es.map (·.1) = en.map (·.1) := by rw [hes, List.map_map]; rfl
 let g : MV → MV := fun k => match dget es k with | some (.loc l) => .int (sz l) | _ => .none
 obtain ⟨ρ', hc⟩ := cl_one (C := C) (n := n + 1) (τ := τ) (b := fun _ => true) (g := g) (dep := fun σ' => ∃ es', σ'[h]? = some (.dict ep es') ∧ es'.map (·.1) = es.map (·.1)) (t := .v 114) (f := []) (elt := .call (.glob 123) [.sub (.var 215) (.var 114)])
  (fun ys => ⟨es, (Kp.new [] τ _).get hd, rfl⟩) (fun ρ => alook ρ 215 = some (.loc h)) (es.map (·.1)) (fun x hx ρ h1 ys => by
   rw [hkeys] at hx
   obtain ⟨e, he, rfl⟩ := List.mem_map.mp hx
   have hd' : (τ ++ [MO.list ys])[h]? = some (.dict ep es) := (Kp.new [] τ _).get hd
   refine ⟨aset ρ 114 e.1, rfl, look_ne h1 (by decide), .nil, fun _ => ?_⟩
   have hg : g e.1 = .int (sz e.2) := by simp only [g, hget e he]
   rw [hg]
   exact .call (gl_len H) (.inl fun _ q => by cases q) (.cons (.sub (.var (look_ne h1 (by decide))) (.var (alook_aset_same ..)) (by rw [kind_dict hd']; decide) (Op.itemD hd' (hfit e he) (hget e he))) .nil) ((hsz e he).keep (Kp.new ..)).len) ys ρ (by rw [hkeys]; simpa using hz) hρ
 refine ⟨ρ', ?_⟩
 have e : ((es.map (·.1)).filter fun _ => true).map g = en.map fun e => .int (sz e.2) := by
  rw [List.filter_eq_self.mpr (fun _ _ => rfl), hkeys, List.map_map]
  apply List.map_congr_left
  intro e he
  simp only [Function.comp, g, hget e he]
 rw [e] at hc
 exact hc
theorem law_size_spec (H : L1 C) {e1 e2 r : Nat} (W : TOK S) (hh : σ[h]? = some (.dict e1 (S.held.map fun e => (.int e.1, .loc e.2)))) (hi : σ[i]? = some (.dict e2 (S.inside.map fun e => (.str e.1, .loc e.2)))) (hr : σ[r]? = some (.list [.loc S.gone, .loc S.leaks, .loc S.kept])) (hT : ∀ t ∈ S.tabs, SizeAt σ t (S.T t).length) :
  ∃ σ', CallEv C (n + 2) (.ref 338) [.loc h, .loc i, .loc r] σ (.int S.size) σ' ∧ Kp [] σ σ' := by
 let ρ₀ : List (Nat × MV) := [(101, .loc h), (104, .loc i), (182, .loc r)]
 have K₁ : Kp [] σ (σ ++ [.list [.loc h, .loc i]]) := Kp.new ..
 generalize hτ : σ ++ [MO.list [.loc h, .loc i]] = τ at K₁
 have htw : τ[σ.length]? = some (.list [.loc h, .loc i]) := by rw [← hτ]; exact get_new ..
 have lh : S.held.length ≤ 6 := by
  have := length_le_of_sub (xs := S.held.map (·.1)) (ys := [(0 : Int), 1, 2, 3, 4, 5]) W.keysH fun x hx => by
   obtain ⟨e, he, rfl⟩ := List.mem_map.mp hx
   have := W.regs e he
   simp; lia
  simpa using this
 have li : S.inside.length ≤ 6 := by
  have := length_le_of_sub (xs := S.inside.map (·.1)) (ys := [48, 53, 59, 76]) W.keysI fun x hx => by
   obtain ⟨e, he, rfl⟩ := List.mem_map.mp hx
   exact W.sits e he
  simp at this; lia
 obtain ⟨ρ₁, c1⟩ := cl_sizes (n := n) (ρ := aset [] 215 (.loc h)) (ys := []) (en := S.held.map fun e => (MV.int e.1, e.2)) (sz := fun l => (S.T l).length) H (by rw [List.map_map]; rfl) (K₁.get hh) (fun e he => by
   obtain ⟨q, hq, rfl⟩ := List.mem_map.mp he
   exact .inl ⟨⟨_, rfl⟩, fun e he => by
    obtain ⟨q, hq, rfl⟩ := List.mem_map.mp he
    exact ⟨_, rfl⟩⟩) (fun e he => by
   obtain ⟨q, hq, rfl⟩ := List.mem_map.mp he
   rw [dget_ints, find_key W.keysH hq]; rfl) (fun e he => by
   obtain ⟨q, hq, rfl⟩ := List.mem_map.mp he
   exact (hT _ (held_tab hq)).keep K₁) (by simp; lia) rfl
 obtain ⟨ρ₂, c2⟩ := cl_sizes (n := n) (ρ := aset ρ₁ 215 (.loc i)) (ys := [] ++ (S.held.map fun e => (MV.int e.1, e.2)).map fun e => .int (S.T e.2).length) (en := S.inside.map fun e => (MV.str e.1, e.2)) (sz := fun l => (S.T l).length) H (by rw [List.map_map]; rfl) (K₁.get hi) (fun e he => by
   obtain ⟨q, hq, rfl⟩ := List.mem_map.mp he
   exact .inl ⟨str_atom (site_lt (W.sits q hq)), fun e he => by
    obtain ⟨q, hq, rfl⟩ := List.mem_map.mp he
    exact str_atom (site_lt (W.sits q hq))⟩) (fun e he => by
   obtain ⟨q, hq, rfl⟩ := List.mem_map.mp he
   rw [dget_strs, find_key W.keysI hq]; rfl) (fun e he => by
   obtain ⟨q, hq, rfl⟩ := List.mem_map.mp he
   exact (hT _ (ins_tab hq)).keep K₁) (by simp; lia) (alook_aset_same ..)
 have keep : ∀ {ys : List MV} {l : Nat} {o : MO}, τ[l]? = some o → (τ ++ [.list ys])[l]? = some o := fun h => (Kp.new [] τ _).get h
 have hcomp : Ev C (n + 1) (.comp [] (.call (.glob 123) [.sub (.var 215) (.var 114)]) [.v 215, .v 114] [.list [.var 101, .var 104], .var 215] [[], []]) ρ₀ σ (.loc τ.length) (τ ++ [.list (S.lens.map MV.int)]) := by
  have e : ([] ++ (S.held.map fun e => (MV.int e.1, e.2)).map fun e => MV.int (S.T e.2).length) ++ (S.inside.map fun e => (MV.str e.1, e.2)).map (fun e => MV.int (S.T e.2).length) = S.lens.map MV.int := by
   simp [TS.lens, List.map_append, List.map_map, Function.comp_def]
  have e' : ∀ ρ, capr ρ [] = [] := fun _ => rfl
  refine .compL (.of (by rw [← hτ]; exact .list (.cons (.var rfl) (.cons (.var rfl) .nil))) (.list htw)) (.inner (keep htw) rfl .nil (.of (.var rfl) (ItOp.keys (keep (K₁.get hh)))) c1 (.inner (keep htw) rfl .nil (.of (.var (alook_aset_same ..)) (ItOp.keys (keep (K₁.get hi)))) (by rw [← e]; exact c2) (.nil (keep htw))))
 have K₂ : Kp [] σ (τ ++ [.list (S.lens.map MV.int)]) := K₁.trans' (Kp.new ..)
 have hsum1 := CallEv.sumL (C := C) (n := n + 1) (i := τ.length) (ns := S.lens) (get_new τ (.list (S.lens.map MV.int)))
 generalize τ ++ [MO.list (S.lens.map MV.int)] = υ at K₂ hcomp hsum1
 have hr2 := K₂.get hr
 have keep2 : ∀ {ys : List MV} {l : Nat} {o : MO}, υ[l]? = some o → (υ ++ [.list ys])[l]? = some o := fun h => (Kp.new [] υ _).get h
 let g : MV → MV := fun v => match v with | .loc l => .int (S.T l).length | _ => .none
 obtain ⟨ρ₃, c3⟩ := cl_one (C := C) (n := n + 1) (τ := υ) (b := fun _ => true) (g := g) (dep := fun σ' => σ'[r]? = some (.list [.loc S.gone, .loc S.leaks, .loc S.kept])) (t := .v 181) (f := []) (elt := .call (.glob 123) [.var 181]) (fun ys => keep2 hr2) (fun _ => True) [.loc S.gone, .loc S.leaks, .loc S.kept] (fun x hx ρ _ ys => by
   refine ⟨aset ρ 181 x, rfl, trivial, .nil, fun _ => ?_⟩
   have : ∃ l ∈ S.tabs, x = .loc l := by
    simp only [List.mem_cons, List.not_mem_nil, or_false] at hx
    rcases hx with rfl | rfl | rfl
    ·exact ⟨_, gone_tab S, rfl⟩
    ·exact ⟨_, leaks_tab S, rfl⟩
    ·exact ⟨_, kept_tab S, rfl⟩
   obtain ⟨l, hl, rfl⟩ := this
   exact .call (gl_len H) (.inl fun _ q => by cases q) (.cons (.var (alook_aset_same ..)) .nil) ((hT l hl).keep (K₂.trans' (Kp.new ..))).len) [] [] (by simp) trivial
 have hcomp2 : Ev C (n + 1) (.comp [] (.call (.glob 123) [.var 181]) [.v 181] [.var 182] [[]]) ρ₀ υ (.loc υ.length) (υ ++ [.list (S.lens3.map MV.int)]) := .compL (.of (.var rfl) (.list hr2)) c3
 have hsum2 := CallEv.sumL (C := C) (n := n + 1) (i := υ.length) (ns := S.lens3) (get_new υ (.list (S.lens3.map MV.int)))
 exact ⟨_, .fn (fn_law_size H) (.out (.ret (.bin (.call (gl_sum H) (.inl fun _ q => by cases q) (.cons hcomp .nil) hsum1) (.call (gl_sum H) (.inl fun _ q => by cases q) (.cons hcomp2 .nil) hsum2) Op.addI)) (by simp)) (.inl rfl), K₂.trans' (Kp.new ..)⟩
end
end Mine
namespace Mine
open PySem PySem.W PyProof.Rows PySem.Calls PySem.Spec PySem.SeqAt
theorem sumI_append : ∀ (a b : List Int), sumI (a ++ b) = sumI a + sumI b
 | [], b => by simp [sumI]
 | x :: a, b => by simp only [List.cons_append, sumI, sumI_append a b]; lia
theorem sumI_le {α : Type} {f g : α → Int} : ∀ {l : List α}, (∀ x ∈ l, f x ≤ g x) → sumI (l.map f) ≤ sumI (l.map g)
 | [], _ => Int.le_refl _
 | x :: l, h => by
  have h1 := h x (by simp)
  have h2 := sumI_le (f := f) (g := g) (l := l) fun y hy => h y (by simp [hy])
  simp only [List.map_cons, sumI]; lia
theorem sumI_eq {α : Type} {f g : α → Int} : ∀ {l : List α}, (∀ x ∈ l, f x ≤ g x) → sumI (l.map g) ≤ sumI (l.map f) → ∀ x ∈ l, f x = g x
 | [], _, _, _, hx => by simp at hx
 | y :: l, h, hs, x, hx => by
  have h1 := h y (by simp)
  have h0 : ∀ x ∈ l, f x ≤ g x := fun z hz => h z (by simp [hz])
  have h2 := sumI_le h0
  simp only [List.map_cons, sumI] at hs
  rcases List.mem_cons.mp hx with rfl | hx
  ·lia
  ·exact sumI_eq h0 (by lia) x hx
theorem sumI_nonneg {α : Type} {f : α → Int} {l : List α} (h : ∀ x ∈ l, 0 ≤ f x) : 0 ≤ sumI (l.map f) := by
 have := sumI_le (f := fun _ => (0 : Int)) (g := f) h
 have e : ∀ l : List α, sumI (l.map fun _ => (0 : Int)) = 0 := fun l => by induction l with
  | nil => rfl
  | cons x l ih => simp [sumI] at ih ⊢; exact ih
 rw [e] at this; exact this
theorem sumI_bound {α : Type} {f : α → Int} {c : Int} : ∀ {l : List α}, (∀ x ∈ l, f x ≤ c) → sumI (l.map f) ≤ l.length * c
 | [], _ => by simp [sumI]
 | x :: l, h => by
  have h1 := h x (by simp)
  have h2 := sumI_bound (f := f) (c := c) (l := l) fun y hy => h y (by simp [hy])
  simp only [List.map_cons, sumI, List.length_cons]
  have : ((l.length + 1 : Nat) : Int) * c = l.length * c + c := by rw [Int.natCast_add, Int.add_mul]; simp
  lia
structure SubX (S Z : TS) : Prop where
 held : ∀ r v, heldT S r v → heldT Z r v
 ins : ∀ k v, insT S k v → insT Z k v
 gone : ∀ k, goneT S k → goneT Z k
 leak : ∀ o, leakT S o → leakT Z o
 kept : ∀ i o, keptT S i o → keptT Z i o
theorem Sub.x {S Z : TS} (h : Sub S Z) : SubX S Z := ⟨h.held, h.ins, h.gone, h.leak, h.kept⟩
theorem SubX.trans {S Y Z : TS} (h : SubX S Y) (h' : SubX Y Z) : SubX S Z :=
 ⟨fun r v q => h'.held r v (h.held r v q), fun r v q => h'.ins r v (h.ins r v q), fun r q => h'.gone r (h.gone r q), fun r q => h'.leak r (h.leak r q), fun r v q => h'.kept r v (h.kept r v q)⟩
theorem Next.monoX {S Z : TS} (h : SubX S Z) {u v : MV} (q : Next S u v) : Next Z u v := by
 cases q with
 | ins q => exact .ins (h.ins _ _ q)
 | gone q => exact .gone (h.gone _ q)
 | kept q => exact .kept (h.kept _ _ q)
theorem Reach.monoX {S Z : TS} (h : SubX S Z) {P Q : MV → Prop} (hp : ∀ v, P v → Q v) {v : MV} (q : Reach S P v) : Reach Z Q v := by
 induction q with
 | base q => exact .base (hp _ q)
 | step _ n ih => exact .step ih (n.monoX h)
theorem Out.monoX {S S₁ Z Z' : TS} {P Q : MV → Prop} (h : Out S₁ Z P) (hs : SubX S S₁) (hz : Sub Z Z') (hp : ∀ v, Q v → P v) : Out S Z' Q := fun v hv => by
 obtain ⟨a, b⟩ := h v (hv.monoX hs hp)
 exact ⟨fun k e => hz.gone k (a k e), fun o e => hz.leak o (b o e)⟩
theorem PutReq.upX {S S₁ Z Z' : TS} {x : MV} {P Q : MV → Prop} (h : PutReq S₁ Z x P) (hs : SubX S S₁) (hz : Sub Z Z') (hp : ∀ v, Q v → P v) : PutReq S Z' x Q := by
 refine ⟨fun e => (h.1 e).monoX hs hz hp, fun o e v hv => ?_, fun k e => ⟨fun v hv => hz.ins _ _ ((h.2.2 k e).1 v (hp v hv)), fun g => ((h.2.2 k e).2 (hs.gone _ g)).monoX hs hz hp⟩⟩
 obtain ⟨a, b⟩ := h.2.1 o e v (hv.monoX hs hp)
 exact ⟨fun k q => (a k q).monoX hs hz fun _ q => q, hz.kept _ _ b⟩
theorem DeedR.upX {w : Nat} {a b : Int} {s : Nat} {S S₁ Z Z' : TS} (h : DeedR w a b s S₁ Z) (hs : SubX S S₁) (hz : Sub Z Z') : DeedR w a b s S Z' := by
 obtain ⟨h1, h2, h3, h4, h5, h6⟩ := h
 refine ⟨fun e => ⟨hz.site _ (h1 e).1, hz.held _ _ (h1 e).2⟩, fun e v hv => hz.held _ _ (h2 e v (hs.held _ _ hv)), fun e v ⟨u, hu, hL⟩ => hz.held _ _ (h3 e v ⟨u, hs.held _ _ hu, hL.imp (fun q => q.monoX hs) id⟩),
  fun e => (h4 e).monoX hs hz (hs.held b), fun e x hx => (h5 e x (hs.held _ _ hx)).upX hs hz (hs.held b), fun e => (h6 e).upX hs hz (hs.held b)⟩
section
variable {m : Nat} {S S' : TS}
theorem TS.lens_eq (S : TS) : S.size = sumI (S.held.map fun e => ((S.T e.2).length : Int)) + sumI (S.inside.map fun e => ((S.T e.2).length : Int)) + ((S.T S.gone).length + (S.T S.leaks).length + (S.T S.kept).length) := by
 unfold TS.size TS.lens TS.lens3
 rw [sumI_append]
 simp only [List.map_cons, List.map_nil, sumI]; lia
theorem TS.size_nonneg (S : TS) : 0 ≤ S.size := by
 rw [TS.lens_eq]
 have := sumI_nonneg (f := fun e : Int × Nat => ((S.T e.2).length : Int)) (l := S.held) (by intros; lia)
 have := sumI_nonneg (f := fun e : Nat × Nat => ((S.T e.2).length : Int)) (l := S.inside) (by intros; lia)
 lia
theorem size_le (W : TOK S) : S.size ≤ 91 := by
 rw [TS.lens_eq]
 have h1 := sumI_bound (f := fun e : Int × Nat => ((S.T e.2).length : Int)) (c := 7) (l := S.held) (fun e he => by have := W.length (held_tab he); lia)
 have h2 := sumI_bound (f := fun e : Nat × Nat => ((S.T e.2).length : Int)) (c := 7) (l := S.inside) (fun e he => by have := W.length (ins_tab he); lia)
 have lh : S.held.length ≤ 6 := by
  have := length_le_of_sub (xs := S.held.map (·.1)) (ys := [(0 : Int), 1, 2, 3, 4, 5]) W.keysH fun x hx => by
   obtain ⟨e, he, rfl⟩ := List.mem_map.mp hx
   have := W.regs e he
   simp; lia
  simpa using this
 have li : S.inside.length ≤ 4 := by
  have := length_le_of_sub (xs := S.inside.map (·.1)) (ys := [48, 53, 59, 76]) W.keysI fun x hx => by
   obtain ⟨e, he, rfl⟩ := List.mem_map.mp hx
   exact W.sits e he
  simpa using this
 have := W.length (gone_tab S)
 have := W.length (leaks_tab S)
 have := W.length (kept_tab S)
 lia
theorem pre_eq {a b : List MV} (h : a <+: b) (e : (a.length : Int) = b.length) : a = b := h.eq_of_length (by lia)
theorem grew_size (G : Grew m S S') : S.size ≤ S'.size ∧ (S'.size ≤ S.size → SubX S' S) := by
 obtain ⟨eh, hh⟩ := G.held
 obtain ⟨ei, hi⟩ := G.inside
 rw [TS.lens_eq, TS.lens_eq, G.gone, G.leaks, G.kept, ← hh, ← hi, List.map_append, List.map_append, sumI_append, sumI_append]
 have ph : ∀ e ∈ S.held, ((S.T e.2).length : Int) ≤ (S'.T e.2).length := fun e he => by have := (G.pre _ (held_tab he)).length_le; lia
 have pi : ∀ e ∈ S.inside, ((S.T e.2).length : Int) ≤ (S'.T e.2).length := fun e he => by have := (G.pre _ (ins_tab he)).length_le; lia
 have h1 := sumI_le ph
 have h2 := sumI_le pi
 have h3 := sumI_nonneg (f := fun e : Int × Nat => ((S'.T e.2).length : Int)) (l := eh) (by intros; lia)
 have h4 := sumI_nonneg (f := fun e : Nat × Nat => ((S'.T e.2).length : Int)) (l := ei) (by intros; lia)
 have h5 := (G.pre _ (gone_tab S)).length_le
 have h6 := (G.pre _ (leaks_tab S)).length_le
 have h7 := (G.pre _ (kept_tab S)).length_le
 refine ⟨by lia, fun hs => ?_⟩
 have q1 := sumI_eq ph (by lia)
 have q2 := sumI_eq pi (by lia)
 have z : ∀ {α : Type} {f : α → Int} {l : List α}, (∀ x ∈ l, 0 ≤ f x) → sumI (l.map f) ≤ 0 → ∀ x ∈ l, 0 = f x := fun {α f l} h0 hz x hx => by
  have e : ∀ l : List α, sumI (l.map fun _ => (0 : Int)) = 0 := fun l => by induction l with
   | nil => rfl
   | cons x l ih => simp [sumI] at ih ⊢; exact ih
  exact sumI_eq (f := fun _ => (0 : Int)) (g := f) (l := l) h0 (by rw [e]; exact hz) x hx
 have q3 := z (f := fun e : Int × Nat => ((S'.T e.2).length : Int)) (l := eh) (by intros; lia) (by lia)
 have q4 := z (f := fun e : Nat × Nat => ((S'.T e.2).length : Int)) (l := ei) (by intros; lia) (by lia)
 refine ⟨fun r v ⟨l, a, b⟩ => ?_, fun r v ⟨l, a, b⟩ => ?_, fun k q => ?_, fun k q => ?_, fun i o q => ?_⟩
 ·rw [← hh] at a
  rcases List.mem_append.mp a with a | a
  ·exact ⟨l, a, by rw [pre_eq (G.pre _ (held_tab a)) (q1 _ a)]; exact b⟩
  ·have := q3 _ a
   have hp := List.length_pos_of_mem b
   simp only at this; lia
 ·rw [← hi] at a
  rcases List.mem_append.mp a with a | a
  ·exact ⟨l, a, by rw [pre_eq (G.pre _ (ins_tab a)) (q2 _ a)]; exact b⟩
  ·have := q4 _ a
   have hp := List.length_pos_of_mem b
   simp only at this; lia
 ·have e := pre_eq (G.pre _ (gone_tab S)) (by lia)
  unfold goneT at q ⊢; rw [G.gone] at q; rw [e]; exact q
 ·have e := pre_eq (G.pre _ (leaks_tab S)) (by lia)
  unfold leakT at q ⊢; rw [G.leaks] at q; rw [e]; exact q
 ·have e := pre_eq (G.pre _ (kept_tab S)) (by lia)
  unfold keptT at q ⊢; rw [G.kept] at q; rw [e]; exact q
end
end Mine
namespace Mine
open PySem PySem.W PyProof.Rows PySem.Calls PySem.Spec PySem.SeqAt
set_option genInjectivity false
structure DD where
 w : Nat
 a : Int
 b : Int
 s : Nat
structure DD.Ok (d : DD) : Prop where
 w : d.w ∈ words
 a : 0 ≤ d.a ∧ d.a < 6
 b : 0 ≤ d.b ∧ d.b < 6
 s : d.s ∈ [48, 53, 59, 76]
noncomputable def DD.v (d : DD) : MV := deedV d.w d.a d.b d.s
noncomputable def DD.R (d : DD) (S Z : TS) : Prop := DeedR d.w d.a d.b d.s S Z
noncomputable def closed (ds : List DD) (Z : TS) : Prop := ∀ d ∈ ds, d.R Z Z
structure Pass (ds done : List DD) (S S' : TS) : Prop where
 seen : ∀ d ∈ done, ∃ S₁ S₂, Sub S S₁ ∧ Sub S₂ S' ∧ d.R S₁ S₂
 least : ∀ Z, Sub S Z → closed ds Z → Sub S' Z
theorem Pass.nil {ds : List DD} (S : TS) : Pass ds [] S S := ⟨by simp, fun _ h _ => h⟩
theorem Pass.step {ds done : List DD} {S S₁ S₂ : TS} {d : DD} (h : Pass ds done S S₁) (hd : d ∈ ds) (h1 : Sub S S₁) (h2 : Sub S₁ S₂) (hr : d.R S₁ S₂) (hl : ∀ Z, Sub S₁ Z → d.R Z Z → Sub S₂ Z) : Pass ds (done ++ [d]) S S₂ := by
 refine ⟨fun e he => ?_, fun Z hz hc => hl Z (h.least Z hz hc) (hc d hd)⟩
 rcases List.mem_append.mp he with he | he
 ·obtain ⟨A, B, a1, a2, a3⟩ := h.seen e he
  exact ⟨A, B, a1, a2.trans h2, a3⟩
 ·simp at he; subst he
  exact ⟨S₁, S₂, h1, Sub.refl _, hr⟩
theorem Pass.closed {ds : List DD} {S S' : TS} (h : Pass ds ds S S') (hx : SubX S' S) : closed ds S' := fun d hd => by
 obtain ⟨A, B, a1, a2, a3⟩ := h.seen d hd
 exact a3.upX (hx.trans a1.x) a2
section
variable {C : Cx} {n q : Nat} {σ₀ σ σ' : MH} {L : FL} {B : BL} {S S' : TS} {ρ : List (Nat × MV)} {ds : List DD} {e : IE}
theorem ev_fheld (H : L1 C) (W : FlowAt σ L S) (h : Ev C n e ρ σ (.inst 208 L.f) σ) : Ev C n (.attr e 101) ρ σ (.loc L.lh) σ := by
 obtain ⟨as, a1, a2, a3, a4, a5, a6⟩ := W.ns
 exact .attr h a1 a2 (cl_EscapeFlow H) (at_EscapeFlow_held H)
theorem ev_finside (H : L1 C) (W : FlowAt σ L S) (h : Ev C n e ρ σ (.inst 208 L.f) σ) : Ev C n (.attr e 104) ρ σ (.loc L.li) σ := by
 obtain ⟨as, a1, a2, a3, a4, a5, a6⟩ := W.ns
 exact .attr h a1 a3 (cl_EscapeFlow H) (at_EscapeFlow_inside H)
theorem ev_fgone (H : L1 C) (W : FlowAt σ L S) (h : Ev C n e ρ σ (.inst 208 L.f) σ) : Ev C n (.attr e 97) ρ σ (.loc S.gone) σ := by
 obtain ⟨as, a1, a2, a3, a4, a5, a6⟩ := W.ns
 exact .attr h a1 a5 (cl_EscapeFlow H) (at_EscapeFlow_gone H)
theorem ev_fsites (H : L1 C) (W : FlowAt σ L S) (h : Ev C n e ρ σ (.inst 208 L.f) σ) : Ev C n (.attr e 203) ρ σ (.loc S.sites) σ := by
 obtain ⟨as, a1, a2, a3, a4, a5, a6⟩ := W.ns
 exact .attr h a1 a4 (cl_EscapeFlow H) (at_EscapeFlow_sites H)
theorem FlowAt.sizeAt (W : FlowAt σ L S) : ∀ t ∈ S.tabs, SizeAt σ t (S.T t).length := fun t ht => by
 obtain ⟨ep, h⟩ := W.tab t ht
 exact .inl ⟨ep, _, h, by simp [tds]⟩
theorem BookAt.sizeAt (W : BookAt σ B S) : ∀ t ∈ S.tabs, SizeAt σ t (S.T t).length := fun t ht => .inr ⟨_, W.tab t ht, rfl⟩
theorem ev_fsize (H : L1 C) (W : FlowAt σ L S) (h88 : alook ρ 88 = some (.inst 208 L.f)) (h116 : alook ρ 116 = some (.inst 54 L.lm)) :
  ∃ σ', Ev C (n + 2) (.call (.glob 44) [.attr (.var 88) 101, .attr (.var 88) 104, .list [.attr (.var 88) 97, .attr (.var 116) 121, .attr (.var 116) 113]]) ρ σ (.int S.size) σ' ∧ Kp [] σ σ' := by
 have K : Kp [] σ (σ ++ [.list [.loc S.gone, .loc S.leaks, .loc S.kept]]) := Kp.new ..
 have W' := W.keep K
 obtain ⟨e1, hh⟩ := W'.held
 obtain ⟨e2, hi⟩ := W'.inside
 obtain ⟨σ', hc, K'⟩ := law_size_spec (n := n) H W.ok hh hi (get_new ..) W'.sizeAt
 exact ⟨σ', .call (gl_law_size H) (ke_law_size H) (.cons (ev_fheld H W (.var h88)) (.cons (ev_finside H W (.var h88)) (.cons (.list (.cons (ev_fgone H W (.var h88)) (.cons (ev_leaks H W (.var h116)) (.cons (ev_kept H W (.var h116)) .nil)))) .nil))) hc, K.trans' K'⟩
theorem ev_bsize (H : L1 C) (W : BookAt σ B S) (h57 : alook ρ 57 = some (.loc B.b)) :
  ∃ σ', Ev C (n + 2) (.call (.glob 44) [.sub (.var 57) (.lit (.str 101)), .sub (.var 57) (.lit (.str 104)), .list [.sub (.var 57) (.lit (.str 97)), .sub (.var 57) (.lit (.str 121)), .sub (.var 57) (.lit (.str 113))]]) ρ σ (.int S.size) σ' ∧ Kp [] σ σ' := by
 have K : Kp [] σ (σ ++ [.list [.loc S.gone, .loc S.leaks, .loc S.kept]]) := Kp.new ..
 have W' := W.keep0 K
 obtain ⟨e1, hh⟩ := W'.held
 obtain ⟨e2, hi⟩ := W'.inside
 obtain ⟨σ', hc, K'⟩ := law_size_spec (n := n) H W.ok hh hi (get_new ..) W'.sizeAt
 exact ⟨σ', .call (gl_law_size H) (ke_law_size H) (.cons (ev_bheld W h57) (.cons (ev_binside W h57) (.cons (.list (.cons (ev_bgone W h57) (.cons (ev_bleaks W h57) (.cons (ev_bkept W h57) .nil)))) .nil))) hc, K.trans' K'⟩
theorem flow_pass (H : L1 C) (W : FlowAt σ L S) (hq : σ[q]? = some (.list (ds.map DD.v))) (hds : ∀ d ∈ ds, d.Ok) (h88 : alook ρ 88 = some (.inst 208 L.f)) (h78 : alook ρ 78 = some (.loc q)) :
  E3 fun ρ' σ' S' => N7 (X1 C (n + 7) (.for (.v 77) (.var 78) [.expr (.call (.glob 27) [.var 88, .var 77])]) ρ σ .next ρ' σ') (FlowAt σ' L S') (Kp (own L S) σ σ') (Grew σ.length S S') (Pass ds ds S S') ((GInv S → GInv S')) (∀ j, j ≠ 77 → alook ρ' j = alook ρ j) := by
 have hqo := W.list_off hq
 let J : List MV → List (Nat × MV) → MH → Prop := fun rem ρ' σ' => E3 fun done rest S' => N8 (ds = done ++ rest) (rem = rest.map DD.v) (FlowAt σ' L S') (Kp (own L S) σ σ') (Grew σ.length S S') (Pass ds done S S') ((GInv S → GInv S')) (∀ j, j ≠ 77 → alook ρ' j = alook ρ j)
 obtain ⟨ρ', σ', hlp, done, rest, S', e1, e2, W', K', hgr, hP, hg, hρ⟩ : E2 fun ρ' σ' => Loop C (n + 7) (.v 77) [.expr (.call (.glob 27) [.var 88, .var 77])] (fun σ' => σ'[q]? = some (.list (ds.map DD.v))) (ds.map DD.v) ρ σ .next ρ' σ' ∧ J [] ρ' σ' := by
  refine Loop.inv J ?_ ?_ _ ρ σ ⟨[], ds, S, rfl, rfl, W, Kp.refl .., Grew.refl .., .nil S, id, fun _ _ => rfl⟩
  ·rintro y rem ρ₁ σ₂ ⟨done, rest, S₂, e1, e2, W₂, K₂, hgr, hP, hg, hρ⟩
   refine ⟨K₂.keep _ _ hqo hq, ?_⟩
   cases rest with
   | nil => simp at e2
   | cons d rest =>
    simp only [List.map_cons, List.cons.injEq] at e2
    obtain ⟨rfl, rfl⟩ := e2
    have hd : d ∈ ds := by rw [e1]; simp
    have ok := hds d hd
    have hρ' : ∀ j, j ≠ 77 → alook (aset ρ₁ 77 d.v) j = alook ρ j := fun j hj => by rw [alook_aset_ne _ _ hj]; exact hρ j hj
    obtain ⟨σ₃, S₃, hc, W₃, K₃, hD⟩ := law_do_spec (n := n) (b := d.b) H W₂ ok.w ok.a ok.s
    exact ⟨_, .next, _, σ₃, rfl, .cons (.expr (.call (gl_law_do H) (ke_law_do H) (.cons (.var (by rw [hρ' 88 (by decide)]; exact h88)) (.cons (.var (alook_aset_same ..)) .nil)) hc)) .nil, .inl rfl, done ++ [d], rest, S₃, by rw [e1]; simp, rfl, W₃, chain_Kp K₂ K₃ hgr (Nat.le_refl _), hgr.trans hD.grew K₂.len,
     hP.step hd hgr.sub hD.grew.sub hD.req hD.least, fun g => hD.ginv (hg g), hρ'⟩
  ·rintro ρ₁ σ₂ ⟨done, rest, S₂, e1, e2, W₂, K₂, _⟩
   exact K₂.keep _ _ hqo hq
 have e3 := List.map_eq_nil_iff.mp e2.symm
 subst e3
 rw [List.append_nil] at e1
 subst e1
 exact ⟨ρ', σ', S', .for (.of (.var h78) (.list hq)) hlp, W', K', hgr, hP, hg, hρ⟩
theorem book_pass (H : L1 C) (W : BookAt σ B S) (hq : σ[q]? = some (.list (ds.map DD.v))) (hqo : q ∉ S.tabs) (hds : ∀ d ∈ ds, d.Ok) (h57 : alook ρ 57 = some (.loc B.b)) (h78 : alook ρ 78 = some (.loc q)) :
  E3 fun ρ' σ' S' => N6 (X1 C (n + 6) (.for (.v 77) (.var 78) [.expr (.call (.glob 28) [.var 57, .var 77])]) ρ σ .next ρ' σ') (BookAt σ' B S') (Kp S.tabs σ σ') (Same S S') (Pass ds ds S S') (∀ j, j ≠ 77 → alook ρ' j = alook ρ j) := by
 let J : List MV → List (Nat × MV) → MH → Prop := fun rem ρ' σ' => E3 fun done rest S' => N7 (ds = done ++ rest) (rem = rest.map DD.v) (BookAt σ' B S') (Kp S.tabs σ σ') (Same S S') (Pass ds done S S') (∀ j, j ≠ 77 → alook ρ' j = alook ρ j)
 obtain ⟨ρ', σ', hlp, done, rest, S', e1, e2, W', K', hgr, hP, hρ⟩ : E2 fun ρ' σ' => Loop C (n + 6) (.v 77) [.expr (.call (.glob 28) [.var 57, .var 77])] (fun σ' => σ'[q]? = some (.list (ds.map DD.v))) (ds.map DD.v) ρ σ .next ρ' σ' ∧ J [] ρ' σ' := by
  refine Loop.inv J ?_ ?_ _ ρ σ ⟨[], ds, S, rfl, rfl, W, Kp.refl .., Same.refl _, .nil S, fun _ _ => rfl⟩
  ·rintro y rem ρ₁ σ₂ ⟨done, rest, S₂, e1, e2, W₂, K₂, hgr, hP, hρ⟩
   refine ⟨K₂.keep _ _ hqo hq, ?_⟩
   cases rest with
   | nil => simp at e2
   | cons d rest =>
    simp only [List.map_cons, List.cons.injEq] at e2
    obtain ⟨rfl, rfl⟩ := e2
    have hd : d ∈ ds := by rw [e1]; simp
    have ok := hds d hd
    have hρ' : ∀ j, j ≠ 77 → alook (aset ρ₁ 77 d.v) j = alook ρ j := fun j hj => by rw [alook_aset_ne _ _ hj]; exact hρ j hj
    obtain ⟨σ₃, S₃, hc, W₃, K₃, hD⟩ := law_done_spec (n := n) (b := d.b) H W₂ ok.w ok.a ok.b ok.s
    rw [hgr.tabs] at K₃
    exact ⟨_, .next, _, σ₃, rfl, .cons (.expr (.call (gl_law_done H) (ke_law_done H) (.cons (.var (by rw [hρ' 57 (by decide)]; exact h57)) (.cons (.var (alook_aset_same ..)) .nil)) hc)) .nil, .inl rfl, done ++ [d], rest, S₃, by rw [e1]; simp, rfl, W₃, K₂.trans' K₃, hgr.trans hD.same,
     hP.step hd hgr.sub hD.same.sub hD.req hD.least, hρ'⟩
  ·rintro ρ₁ σ₂ ⟨done, rest, S₂, e1, e2, W₂, K₂, _⟩
   exact K₂.keep _ _ hqo hq
 have e3 := List.map_eq_nil_iff.mp e2.symm
 subst e3
 rw [List.append_nil] at e1
 subst e1
 exact ⟨ρ', σ', S', .for (.of (.var h78) (.list hq)) hlp, W', K', hgr, hP, hρ⟩
end
end Mine
namespace Mine
open PySem PySem.W PyProof.Rows PySem.Calls PySem.Spec PySem.SeqAt
section
variable {C : Cx} {n q : Nat} {σ₀ σ σ' : MH} {L : FL} {B : BL} {S S' : TS} {ρ : List (Nat × MV)} {ds : List DD} {e : IE}
theorem least_trans {S S₁ S₂ : TS} (h : ∀ Z, Sub S Z → closed ds Z → Sub S₁ Z) (h' : ∀ Z, Sub S₁ Z → closed ds Z → Sub S₂ Z) : ∀ Z, Sub S Z → closed ds Z → Sub S₂ Z := fun Z hz hc => h' Z (h Z hz hc) hc
noncomputable abbrev fsizeE : IE := .call (.glob 44) [.attr (.var 88) 101, .attr (.var 88) 104, .list [.attr (.var 88) 97, .attr (.var 116) 121, .attr (.var 116) 113]]
noncomputable abbrev bsizeE : IE := .call (.glob 44) [.sub (.var 57) (.lit (.str 101)), .sub (.var 57) (.lit (.str 104)), .list [.sub (.var 57) (.lit (.str 97)), .sub (.var 57) (.lit (.str 121)), .sub (.var 57) (.lit (.str 113))]]
noncomputable abbrev doLoop : List IS := [.setv 204 fsizeE, .for (.v 77) (.var 78) [.expr (.call (.glob 27) [.var 88, .var 77])]]
noncomputable abbrev doneLoop : List IS := [.setv 204 bsizeE, .for (.v 77) (.var 78) [.expr (.call (.glob 28) [.var 57, .var 77])]]
theorem flow_loop (H : L1 C) (hds : ∀ d ∈ ds, d.Ok) : ∀ (m : Nat) (ρ : List (Nat × MV)) (σ : MH) (S : TS) (sz : Int), 92 - S.size ≤ m → FlowAt σ L S → σ[q]? = some (.list (ds.map DD.v)) →
  alook ρ 88 = some (.inst 208 L.f) → alook ρ 78 = some (.loc q) → alook ρ 116 = some (.inst 54 L.lm) → alook ρ 204 = some (.int sz) → sz < S.size →
  E4 fun j ρ' σ' S' => N8 (WLoop C (n + 7) (.cmp .Lt (.var 204) fsizeE) doLoop j ρ σ .next ρ' σ') (FlowAt σ' L S') (Kp (own L S) σ σ') (Grew σ.length S S') (closed ds S') ((∀ Z, Sub S Z → closed ds Z → Sub S' Z)) ((GInv S → GInv S')) (∀ i, i ≠ 77 → i ≠ 204 → alook ρ' i = alook ρ i) := by
 intro m
 induction m with
 | zero =>
  intro ρ σ S sz hm W
  have := size_le W.ok
  omega
 | succ m ih =>
  intro ρ σ S sz hm W hq h88 h78 h116 h204 hsz
  obtain ⟨σ₁, he₁, K₁⟩ := ev_fsize (n := n + 5) H W h88 h116
  have ht : Tst C (n + 7) (.cmp .Lt (.var 204) fsizeE) ρ σ true σ₁ := by
   have := Tst.cmp (C := C) (n := n + 7) (ρ := ρ) (σ := σ) (.var h204) he₁ Op.ltI
   rwa [decide_eq_true hsz] at this
  have W₁ := W.keep K₁
  obtain ⟨σ₂, he₂, K₂⟩ := ev_fsize (n := n + 5) H W₁ h88 h116
  have W₂ := W₁.keep K₂
  let ρ₁ := aset ρ 204 (.int S.size)
  have hρ₁ : ∀ i, i ≠ 204 → alook ρ₁ i = alook ρ i := fun i hi => alook_aset_ne _ _ hi
  have hq₂ := (K₁.trans' K₂).get hq
  obtain ⟨ρ₃, σ₃, S₃, hX, W₃, K₃, hgr, hP, hg, hρ⟩ := flow_pass (n := n) (ρ := ρ₁) H W₂ hq₂ hds (by rw [hρ₁ _ (by decide)]; exact h88) (by rw [hρ₁ _ (by decide)]; exact h78)
  have hXs : Xs C (n + 7) doLoop ρ σ₁ .next ρ₃ σ₃ := .cons (.setv he₂) (.cons hX .nil)
  have K : Kp (own L S) σ σ₃ := ((K₁.trans' K₂).up).trans' K₃
  have hgr' : Grew σ.length S S₃ := hgr.less (K₁.trans' K₂).len
  have hρ' : ∀ i, i ≠ 77 → i ≠ 204 → alook ρ₃ i = alook ρ i := fun i h1 h2 => by rw [hρ i h1, hρ₁ i h2]
  have b204 : alook ρ₃ 204 = some (.int S.size) := by rw [hρ _ (by decide)]; exact alook_aset_same ..
  have b88 : alook ρ₃ 88 = some (.inst 208 L.f) := by rw [hρ' _ (by decide) (by decide)]; exact h88
  have b78 : alook ρ₃ 78 = some (.loc q) := by rw [hρ' _ (by decide) (by decide)]; exact h78
  have b116 : alook ρ₃ 116 = some (.inst 54 L.lm) := by rw [hρ' _ (by decide) (by decide)]; exact h116
  obtain ⟨g1, g2⟩ := grew_size hgr
  by_cases hlt : S.size < S₃.size
  ·obtain ⟨j, ρ', σ', S', hW, W', K', hgr2, hcl, hl, hg2, hρ2⟩ := ih ρ₃ σ₃ S₃ S.size (by omega) W₃ (K₃.keep _ _ (W₂.list_off hq₂) hq₂) b88 b78 b116 b204 hlt
   exact ⟨j + 1, ρ', σ', S', .turn ht hXs (.inl rfl) hW, W', chain_Kp K K' hgr' (Nat.le_refl _), hgr'.trans hgr2 K.len, hcl, least_trans hP.least hl, fun g => hg2 (hg g), fun i h1 h2 => by rw [hρ2 i h1 h2, hρ' i h1 h2]⟩
  ·obtain ⟨σ₄, he₄, K₄⟩ := ev_fsize (n := n + 5) H W₃ b88 b116
   have ht₄ : Tst C (n + 7) (.cmp .Lt (.var 204) fsizeE) ρ₃ σ₃ false σ₄ := by
    have := Tst.cmp (C := C) (n := n + 7) (ρ := ρ₃) (σ := σ₃) (.var b204) he₄ Op.ltI
    rwa [decide_eq_false hlt] at this
   exact ⟨1, ρ₃, σ₄, S₃, .turn ht hXs (.inl rfl) (.stop ht₄), W₃.keep K₄, K.trans' (K₄.up), hgr', hP.closed (g2 (by omega)), hP.least, hg, hρ'⟩
theorem book_loop (H : L1 C) (hds : ∀ d ∈ ds, d.Ok) : ∀ (m : Nat) (ρ : List (Nat × MV)) (σ : MH) (S : TS) (sz : Int), 92 - S.size ≤ m → BookAt σ B S → σ[q]? = some (.list (ds.map DD.v)) → q ∉ S.tabs →
  alook ρ 57 = some (.loc B.b) → alook ρ 78 = some (.loc q) → alook ρ 204 = some (.int sz) → sz < S.size →
  E4 fun j ρ' σ' S' => N7 (WLoop C (n + 6) (.cmp .Lt (.var 204) bsizeE) doneLoop j ρ σ .next ρ' σ') (BookAt σ' B S') (Kp S.tabs σ σ') (Same S S') (closed ds S') ((∀ Z, Sub S Z → closed ds Z → Sub S' Z)) (∀ i, i ≠ 77 → i ≠ 204 → alook ρ' i = alook ρ i) := by
 intro m
 induction m with
 | zero =>
  intro ρ σ S sz hm W
  have := size_le W.ok
  omega
 | succ m ih =>
  intro ρ σ S sz hm W hq hqo h57 h78 h204 hsz
  obtain ⟨σ₁, he₁, K₁⟩ := ev_bsize (n := n + 4) H W h57
  have ht : Tst C (n + 6) (.cmp .Lt (.var 204) bsizeE) ρ σ true σ₁ := by
   have := Tst.cmp (C := C) (n := n + 6) (ρ := ρ) (σ := σ) (.var h204) he₁ Op.ltI
   rwa [decide_eq_true hsz] at this
  have W₁ := W.keep0 K₁
  obtain ⟨σ₂, he₂, K₂⟩ := ev_bsize (n := n + 4) H W₁ h57
  have W₂ := W₁.keep0 K₂
  let ρ₁ := aset ρ 204 (.int S.size)
  have hρ₁ : ∀ i, i ≠ 204 → alook ρ₁ i = alook ρ i := fun i hi => alook_aset_ne _ _ hi
  have hq₂ := (K₁.trans' K₂).get hq
  obtain ⟨ρ₃, σ₃, S₃, hX, W₃, K₃, hgr, hP, hρ⟩ := book_pass (n := n) (ρ := ρ₁) H W₂ hq₂ hqo hds (by rw [hρ₁ _ (by decide)]; exact h57) (by rw [hρ₁ _ (by decide)]; exact h78)
  have hXs : Xs C (n + 6) doneLoop ρ σ₁ .next ρ₃ σ₃ := .cons (.setv he₂) (.cons hX .nil)
  have K : Kp S.tabs σ σ₃ := ((K₁.trans' K₂).up).trans' K₃
  have hρ' : ∀ i, i ≠ 77 → i ≠ 204 → alook ρ₃ i = alook ρ i := fun i h1 h2 => by rw [hρ i h1, hρ₁ i h2]
  have b204 : alook ρ₃ 204 = some (.int S.size) := by rw [hρ _ (by decide)]; exact alook_aset_same ..
  have b57 : alook ρ₃ 57 = some (.loc B.b) := by rw [hρ' _ (by decide) (by decide)]; exact h57
  have b78 : alook ρ₃ 78 = some (.loc q) := by rw [hρ' _ (by decide) (by decide)]; exact h78
  obtain ⟨g1, g2⟩ := grew_size (hgr.grew (m := 0))
  by_cases hlt : S.size < S₃.size
  ·obtain ⟨j, ρ', σ', S', hW, W', K', hgr2, hcl, hl, hρ2⟩ := ih ρ₃ σ₃ S₃ S.size (by omega) W₃ (K₃.keep _ _ hqo hq₂) (hgr.tabs ▸ hqo) b57 b78 b204 hlt
   rw [hgr.tabs] at K'
   exact ⟨j + 1, ρ', σ', S', .turn ht hXs (.inl rfl) hW, W', K.trans' K', hgr.trans hgr2, hcl, least_trans hP.least hl, fun i h1 h2 => by rw [hρ2 i h1 h2, hρ' i h1 h2]⟩
  ·obtain ⟨σ₄, he₄, K₄⟩ := ev_bsize (n := n + 4) H W₃ b57
   have ht₄ : Tst C (n + 6) (.cmp .Lt (.var 204) bsizeE) ρ₃ σ₃ false σ₄ := by
    have := Tst.cmp (C := C) (n := n + 6) (ρ := ρ₃) (σ := σ₃) (.var b204) he₄ Op.ltI
    rwa [decide_eq_false hlt] at this
   exact ⟨1, ρ₃, σ₄, S₃, .turn ht hXs (.inl rfl) (.stop ht₄), W₃.keep0 K₄, K.trans' (K₄.up), hgr, hP.closed (g2 (by omega)), hP.least, hρ'⟩
end
end Mine
namespace Mine
open PySem PySem.W PyProof.Rows PySem.Calls PySem.Spec PySem.SeqAt
noncomputable def Src (σ : MH) (p : Nat) : Prop := ∃ g s : Int, σ[p]? = some (.list [.int g, .int s]) ∧ 0 ≤ g ∧ 0 ≤ s ∧ s < 2147483647
section
variable {C : Cx} {n p q t l : Nat} {σ₀ σ σ' : MH} {ρ : List (Nat × MV)} {e : IE} {top : Int} {xs : List MV}
theorem Src.keep {D : List Nat} (h : Src σ p) (K : Kp D σ σ') (hp : p ∉ D) : Src σ' p := by
 obtain ⟨g, s, h1, h2⟩ := h
 exact ⟨g, s, K.keep _ _ hp h1, h2⟩
theorem mulSmall {a b : Int} (h1 : 0 ≤ b) (h2 : b < 2 ^ 63) : IntMulOk a b := IntMulOk.of_right (intBits_le_64 (by lia) (by lia))
theorem ev_at {xs : List MV} {v : MV} {j k : Nat} (hv : alook ρ j = some (.loc p)) (hp : σ[p]? = some (.list xs)) (hx : xs[k]? = some v) : Ev C n (.sub (.var j) (.lit (.int k))) ρ σ v σ :=
 .sub (.var hv) .lit (by rw [kind_list hp]; decide) (Op.itemL hp rfl hx)
structure ScriptAt (C : Cx) (l : Addr) (ns : List Int) : Prop where
 list : ∃ vs, C.h₀.IsList l (List.toArray vs) ∧ IntsAre vs ns
 short : ns.length ≤ 63
theorem script_len {l : Addr} {ns : List Int} (S : ScriptAt C l ns) : CallEv C n (.builtin "len") [.raw (.ref l)] σ (.int ns.length) σ := by
 intro A ι s rvs r R V
 obtain ⟨x, rfl, h1⟩ := vr1 V
 have h1 : _ = _ := h1
 subst h1
 obtain ⟨vs, ⟨o, ho, h2⟩, hI⟩ := S.list
 have hlen := IntsAre.length hI
 have hL : s.heap.IsList l vs.toArray := ⟨o, R.keep _ _ ho, h2⟩
 have hsz := S.short
 refine PyProof.Rows.len_list (prog := C.prog) (w := C.w) (A := A) (E := fun _ _ => False) hL (by simp; lia) ?_
 exact post_here R ⟨_, by simp [hlen]; rfl⟩
theorem ints_get {vs : List Value} {ns : List Int} (h : IntsAre vs ns) : ∀ {k : Nat} {c : Int}, ns[k]? = some c → ∃ t, vs[k]? = some (.int c t) := by
 induction h with
 | nil => intro k c h; exact nomatch h
 | cons m t r ih =>
  intro k c h
  cases k with
  | zero => cases h; exact ⟨t, rfl⟩
  | succ k => exact ih h
theorem script_at {l : Addr} {ns : List Int} {j k : Nat} {c : Int} (S : ScriptAt C l ns) (hv : alook ρ j = some (.raw (.ref l))) (hc : ns[k]? = some c) : Ev C n (.sub (.var j) (.lit (.int k))) ρ σ (.int c) σ := by
 intro F x A ι s hk ok r hA
 replace hk := onSubscript_inv hk; obtain ⟨value, slice, pos, rfl, hk⟩ := hk
 obtain ⟨c1, c2, c3⟩ := and3 hk
 refine Subscript_ (wpAny_mono (Ev.var hv F value A ι s c1 ok r hA) (fun ov s₁ p₁ => ?_) fun _ _ z => z)
 obtain ⟨ι₁, R₁, V₁, S₁⟩ := p₁
 refine wpAny_mono (Ev.lit (v := .int k) (by intro _; nofun) F slice A ι₁ s₁ c2 ok r (hA.step ok R₁ S₁.heap)) (fun iv s₂ p₂ => ?_) fun _ _ z => z
 obtain ⟨ι₂, R₂, V₂, S₂⟩ := p₂
 cases (V₁ : _ = _)
 obtain ⟨tk, rfl⟩ := V₂
 obtain ⟨vs, ⟨o, ho, hcl, hdt⟩, hI⟩ := S.list
 obtain ⟨t, ht⟩ := ints_get hI hc
 have hlen := IntsAre.length hI
 have hlt := (List.getElem?_eq_some_iff.mp ht).1
 have hsz := S.short
 have ho' := R₂.keep _ _ ho
 obtain ⟨id, hid⟩ := getitem_slot (T := "list") (.inr (.inl rfl))
 refine tail_any ⟨o, ho', hcl⟩ hid (wpAny_mono (Q := fun v s' => Post C ι₂ s₂ (.int c) σ v s') (E := fun _ _ => False) ?_ (fun rv s₃ p₃ => ?_) fun _ _ z => z) (ops := [.ref l, .int k tk]) (by cases slice <;> first | rfl | exact ff c3)
 ·exact wpAny_getItem_list (x := .int c t) ⟨o, ho', hcl, hdt⟩ (by lia) (by lia) (by simpa using ht) ⟨ι₂, R₂, by first | exact rfl | exact ⟨_, rfl⟩, .refl ..⟩
 ·obtain ⟨ι₃, R₃, V₃, S₃⟩ := p₃
  exact ⟨ι₃, R₃, V₃, S₁.trans (S₂.trans S₃)⟩
theorem law_pool_spec (H : L1 C) {l : Addr} {ns : List Int} (hS : ScriptAt C l ns) :
  E2 fun σ' p => N4 (CallEv C (n + 1) (.ref 260) [.raw (.ref l)] σ (.loc p) σ') (Kp [] σ σ') (σ.length ≤ p) (Src σ' p) := by
 let ρ₀ : List (Nat × MV) := [(197, .raw (.ref l))]
 have hlen : Ev C n (.call (.glob 123) [.var 197]) ρ₀ σ (.int ns.length) σ := .call (gl_len H) (.inl fun _ q => by cases q) (.cons (.var rfl) .nil) (script_len hS)
 have ht : Tst C n (.cmp .Gt (.call (.glob 123) [.var 197]) (.lit (.int 0))) ρ₀ σ (decide (0 < (ns.length : Int))) σ := .cmp hlen .lit Op.gtI
 obtain ⟨cell, hcell⟩ : ∃ cell, Ev C n (.ite (.cmp .Gt (.call (.glob 123) [.var 197]) (.lit (.int 0))) (.sub (.var 197) (.lit (.int 0))) (.lit (.int 0))) ρ₀ σ (.int cell) σ := by
  cases ns with
  | nil => exact ⟨0, .iteF ht .lit⟩
  | cons c cs => exact ⟨c, .iteT (by rwa [decide_eq_true (by simp)] at ht) (script_at (k := 0) hS rfl rfl)⟩
 let ρ₁ := aset ρ₀ 64 (.int cell)
 let grown : Int := if -1 - cell > cell then -1 - cell else cell
 have hg0 : 0 ≤ grown := by simp only [grown]; split <;> lia
 have hgr : Ev C n (.call (.glob 145) [.var 64, .bin .Sub (.neg (.lit (.int 1))) (.var 64)]) ρ₁ σ (.int grown) σ :=
  .call (gl_max H) (.inl fun _ q => by cases q) (.cons (.var rfl) (.cons (.bin (.neg .lit) (.var rfl) Op.subI) .nil)) CallEv.max2
 let ρ₂ := aset ρ₁ 98 (.int grown)
 have ht2 : Tst C n (.cmp .GtE (.var 98) (.bin .Pow (.lit (.int 10)) (.lit (.int 18)))) ρ₂ σ (decide ((10 : Int) ^ (18 : Int).toNat ≤ grown)) σ := .cmp (.var rfl) (.bin .lit .lit (Op.powI (by decide) (by decide) (by decide))) Op.geI
 obtain ⟨g, hg, hgn⟩ : ∃ g : Int, Ev C n (.ite (.cmp .GtE (.var 98) (.bin .Pow (.lit (.int 10)) (.lit (.int 18)))) (.var 98) (.lit (.int 0))) ρ₂ σ (.int g) σ ∧ 0 ≤ g := by
  cases hb : decide ((10 : Int) ^ (18 : Int).toNat ≤ grown) with
  | true => rw [hb] at ht2; exact ⟨grown, .iteT ht2 (.var rfl), hg0⟩
  | false => rw [hb] at ht2; exact ⟨0, .iteF ht2 .lit, by decide⟩
 let s : Int := ((grown.fmod 2147483629 + 219) * 48271).fmod 2147483647
 have hs : Ev C n (.bin .Mod (.bin .Mult (.bin .Add (.bin .Mod (.var 98) (.lit (.int 2147483629))) (.lit (.int 219))) (.lit (.int 48271))) (.lit (.int 2147483647))) ρ₂ σ (.int s) σ :=
  .bin (.bin (.bin (.bin (.var rfl) .lit (Op.modI (by decide))) .lit Op.addI) .lit (Op.mulI (mulSmall (by decide) (by decide)))) .lit (Op.modI (by decide))
 have hs0 : 0 ≤ s := Int.fmod_nonneg_of_pos _ (by decide)
 have hs1 : s < 2147483647 := Int.fmod_lt_of_pos _ (by decide)
 exact ⟨σ ++ [MO.list [.int g, .int s]], σ.length, .fn (fn_law_pool H) (.cons (.setv hcell) (.cons (.setv hgr) (.out (.ret (.list (.cons hg (.cons hs .nil)))) (by simp)))) (.inl rfl), Kp.new .., Nat.le_refl _, g, s, get_new .., hgn, hs0, hs1⟩
theorem law_take_spec (H : L1 C) (hs : Src σ p) (h0 : 0 < top) (h1 : top < 1000) :
  E2 fun σ' r => N5 (CallEv C (n + 1) (.ref 267) [.loc p, .int top] σ (.int r) σ') (Kp [p] σ σ') (Src σ' p) (0 ≤ r) (r < top) := by
 obtain ⟨g, s, hp, hg, hs0, hs1⟩ := hs
 have hlt := (List.getElem?_eq_some_iff.mp hp).1
 let ρ₀ : List (Nat × MV) := [(208, .loc p), (227, .int top)]
 have e0 : Ev C n (.sub (.var 208) (.lit (.int 0))) ρ₀ σ (.int g) σ := ev_at (k := 0) rfl hp rfl
 have ht : Tst C n (.cmp .Gt (.sub (.var 208) (.lit (.int 0))) (.lit (.int 0))) ρ₀ σ (decide (0 < g)) σ := .cmp e0 .lit Op.gtI
 by_cases hgp : 0 < g
 ·rw [decide_eq_true hgp] at ht
  have ht' := ht
  have e0' : Ev C n (.sub (.var 208) (.lit (.int 0))) (aset ρ₀ 165 (.int (g.fmod top))) σ (.int g) σ := ev_at (k := 0) rfl hp rfl
  have hset : OpU C n [.loc p, .int 0, .int (g.fdiv top)] σ setF (σ.set p (.list ([MV.int g, .int s].set 0 (.int (g.fdiv top))))) := OpU.setL hp rfl (by simp)
  refine ⟨_, g.fmod top, .fn (fn_law_take H) (.out (.ite_t ht (.cons (.setv (.bin e0 (.var rfl) (Op.modI (by lia)))) (.cons (.seti (.bin e0' (.var rfl) (Op.divI (by lia) (by lia))) (.var rfl) .lit hset) (.out (.ret (.var rfl)) (by simp))))) (by simp)) (.inl rfl), Kp.of (Upd.set ..) (by simp), ⟨g.fdiv top, s, List.getElem?_set_self hlt, Int.fdiv_nonneg (by lia) (by lia), hs0, hs1⟩, Int.fmod_nonneg_of_pos _ h0, Int.fmod_lt_of_pos _ h0⟩
 ·rw [decide_eq_false hgp] at ht
  have e1 : Ev C n (.sub (.var 208) (.lit (.int 1))) ρ₀ σ (.int s) σ := ev_at (k := 1) rfl hp rfl
  let s' : Int := (s * 39373 + 7).fmod 2147483647
  have hs0' : 0 ≤ s' := Int.fmod_nonneg_of_pos _ (by decide)
  have hs1' : s' < 2147483647 := Int.fmod_lt_of_pos _ (by decide)
  have hv : Ev C n (.bin .Mod (.bin .Add (.bin .Mult (.sub (.var 208) (.lit (.int 1))) (.lit (.int 39373))) (.lit (.int 7))) (.lit (.int 2147483647))) ρ₀ σ (.int s') σ :=
   .bin (.bin (.bin e1 .lit (Op.mulI (mulSmall (by decide) (by decide)))) .lit Op.addI) .lit (Op.modI (by decide))
  have hset : OpU C n [.loc p, .int 1, .int s'] σ setF (σ.set p (.list ([MV.int g, .int s].set 1 (.int s')))) := OpU.setL hp rfl (by simp)
  have hp' : (σ.set p (.list ([MV.int g, .int s].set 1 (.int s'))))[p]? = some (.list [.int g, .int s']) := List.getElem?_set_self hlt
  have e2 : Ev C n (.sub (.var 208) (.lit (.int 1))) ρ₀ (σ.set p (.list ([MV.int g, .int s].set 1 (.int s')))) (.int s') (σ.set p (.list ([MV.int g, .int s].set 1 (.int s')))) := ev_at (k := 1) rfl hp' rfl
  refine ⟨_, (((s' * s').fmod 2147483629).fdiv 32).fmod top, .fn (fn_law_take H) (.cons (.ite_f ht .nil) (.cons (.seti hv (.var rfl) .lit hset) (.out (.ret (.bin (.bin (.bin (.bin e2 e2 (Op.mulI (mulSmall hs0' (by lia)))) .lit (Op.modI (by decide))) .lit (Op.divI (by decide) (by decide))) (.var rfl) (Op.modI (by lia)))) (by simp)))) (.inl rfl), Kp.of (Upd.set ..) (by simp), ⟨g, s', hp', hg, hs0', hs1'⟩, Int.fmod_nonneg_of_pos _ h0, Int.fmod_lt_of_pos _ h0⟩
theorem law_one_spec (H : L1 C) (hs : Src σ p) (ht : σ[t]? = some (.list xs)) (hne : t ≠ p) (h0 : xs ≠ []) (h1 : xs.length < 1000) :
  E2 fun σ' v => N4 (CallEv C (n + 2) (.ref 274) [.loc p, .loc t] σ v σ') (Kp [p] σ σ') (Src σ' p) (v ∈ xs) := by
 have hpos : 0 < xs.length := List.length_pos_iff.mpr h0
 obtain ⟨σ', r, hc, K, hs', hr0, hr1⟩ := law_take_spec (n := n) (top := xs.length) H hs (by lia) (by lia)
 have ht' := K.keep _ _ (by simpa using hne) ht
 have hlt : r.toNat < xs.length := by lia
 refine ⟨σ', xs[r.toNat], .fn (fn_law_one H) (.out (.ret (.sub (.var rfl) (.call (gl_law_take H) (ke_law_take H) (.cons (.var rfl) (.cons (.call (gl_len H) (.inl fun _ q => by cases q) (.cons (.var rfl) .nil) (CallEv.lenL ht)) .nil)) hc) (by rw [kind_list ht']; decide) (Op.itemL ht' (q := r.toNat) (by lia) (List.getElem?_eq_getElem hlt)))) (by simp)) (.inl rfl), K, hs', List.getElem_mem hlt⟩
end
end Mine
namespace Mine
open PySem PySem.W PyProof.Rows PySem.Calls PySem.Spec PySem.SeqAt
section
variable {C : Cx} {n p q t l d : Nat} {σ₀ σ σ' : MH} {ρ : List (Nat × MV)} {e : IE} {top : Int} {xs : List MV} {D : List Nat}
theorem Kp.setNewD {x : MO} (K : Kp D σ₀ σ) (h : σ₀.length ≤ d) : Kp D σ₀ (σ.set d x) :=
 ⟨by simpa using K.len, fun i o hi e => by
  have := (List.getElem?_eq_some_iff.mp e).1
  rw [List.getElem?_set_ne (by lia)]; exact K.keep _ _ hi e⟩
theorem Src.lt (h : Src σ p) : p < σ.length := by
 obtain ⟨g, s, h1, _⟩ := h; exact (List.getElem?_eq_some_iff.mp h1).1
noncomputable abbrev wordsL : List MV := [.str 137, .str 137, .str 148, .str 125, .str 161, .str 169, .str 169, .str 169, .str 54]
noncomputable abbrev sitesL : List MV := [.str 48, .str 53, .str 59, .str 76]
noncomputable abbrev deedsBody : List IS := [
  .setv 233 (.call (.glob 33) [.var 208, .list [.lit (.str 137), .lit (.str 137), .lit (.str 148), .lit (.str 125), .lit (.str 161), .lit (.str 169), .lit (.str 169), .lit (.str 169), .lit (.str 54)]]),
  .sett [156, 160] (.tup [.call (.glob 46) [.var 208, .lit (.int 6)], .call (.glob 46) [.var 208, .lit (.int 6)]]),
  .expr (.meth (.var 91) 49 [.tup [.var 233, .var 156, .var 160, .call (.glob 33) [.var 208, .list [.lit (.str 48), .lit (.str 53), .lit (.str 59), .lit (.str 76)]]]])]
theorem ev_words : Ev C n (.list [.lit (.str 137), .lit (.str 137), .lit (.str 148), .lit (.str 125), .lit (.str 161), .lit (.str 169), .lit (.str 169), .lit (.str 169), .lit (.str 54)]) ρ σ (.loc σ.length) (σ ++ [MO.list wordsL]) :=
 .list (.cons .lit (.cons .lit (.cons .lit (.cons .lit (.cons .lit (.cons .lit (.cons .lit (.cons .lit (.cons .lit .nil)))))))))
theorem ev_sitesL : Ev C n (.list [.lit (.str 48), .lit (.str 53), .lit (.str 59), .lit (.str 76)]) ρ σ (.loc σ.length) (σ ++ [MO.list sitesL]) :=
 .list (.cons .lit (.cons .lit (.cons .lit (.cons .lit .nil))))
theorem deeds_turn (H : L1 C) {ds : List DD} (hs : Src σ p) (hd : σ[d]? = some (.list (ds.map DD.v))) (hdp : d ≠ p) (hl : ds.length < 100) (h208 : alook ρ 208 = some (.loc p)) (h91 : alook ρ 91 = some (.loc d)) :
  E3 fun ρ' σ' x => N5 (Xs C (n + 2) deedsBody ρ σ .next ρ' (σ'.set d (.list ((ds ++ [x]).map DD.v)))) (Kp [p] σ σ') (Src σ' p) (x.Ok) ((∀ j, j ≠ 233 → j ≠ 156 → j ≠ 160 → alook ρ' j = alook ρ j)) := by
 have hpl := hs.lt
 have K₁ : Kp [] σ (σ ++ [MO.list wordsL]) := Kp.new ..
 obtain ⟨σ₂, w, hc₂, K₂, hs₂, hw⟩ := law_one_spec (n := n) (xs := wordsL) H (hs.keep K₁ (by simp)) (get_new ..) (by lia) (by simp) (by simp)
 obtain ⟨σ₃, a, hc₃, K₃, hs₃, ha0, ha1⟩ := law_take_spec (n := n + 1) (top := 6) H hs₂ (by decide) (by decide)
 obtain ⟨σ₄, b, hc₄, K₄, hs₄, hb0, hb1⟩ := law_take_spec (n := n + 1) (top := 6) H hs₃ (by decide) (by decide)
 have K₁₄ : Kp [p] σ σ₄ := (((K₁.up).trans' K₂).trans' K₃).trans' K₄
 have K₅ : Kp [] σ₄ (σ₄ ++ [MO.list sitesL]) := Kp.new ..
 obtain ⟨σ₆, s, hc₆, K₆, hs₆, hsv⟩ := law_one_spec (n := n) (xs := sitesL) H (hs₄.keep K₅ (by simp)) (get_new ..) (by have := K₁₄.len; lia) (by simp) (by simp)
 have K : Kp [p] σ σ₆ := (K₁₄.trans' (K₅.up)).trans' K₆
 obtain ⟨w, rfl, hww⟩ : ∃ k, w = MV.str k ∧ k ∈ words := by
  simp only [List.mem_cons, List.not_mem_nil, or_false] at hw
  rcases hw with rfl | rfl | rfl | rfl | rfl | rfl | rfl | rfl | rfl <;> exact ⟨_, rfl, by decide⟩
 obtain ⟨s, rfl, hsk⟩ : ∃ k, s = MV.str k ∧ k ∈ [48, 53, 59, 76] := by
  simp only [List.mem_cons, List.not_mem_nil, or_false] at hsv
  rcases hsv with rfl | rfl | rfl | rfl <;> exact ⟨_, rfl, by decide⟩
 let ρ₁ := aset ρ 233 (.str w)
 have a208 : alook ρ₁ 208 = some (.loc p) := look_ne h208 (by decide)
 let ρ₂ := asets ρ₁ [156, 160] [.int a, .int b]
 have hρ : ∀ j, j ≠ 233 → j ≠ 156 → j ≠ 160 → alook ρ₂ j = alook ρ j := fun j h1 h2 h3 => by
  show alook (aset (aset ρ₁ 156 (.int a)) 160 (.int b)) j = _
  rw [alook_aset_ne _ _ h3, alook_aset_ne _ _ h2, alook_aset_ne _ _ h1]
 have b208 : alook ρ₂ 208 = some (.loc p) := by rw [hρ _ (by decide) (by decide) (by decide)]; exact h208
 have b91 : alook ρ₂ 91 = some (.loc d) := by rw [hρ _ (by decide) (by decide) (by decide)]; exact h91
 have b233 : alook ρ₂ 233 = some (.str w) := by
  show alook (aset (aset ρ₁ 156 (.int a)) 160 (.int b)) 233 = _
  rw [alook_aset_ne _ _ (by decide), alook_aset_ne _ _ (by decide)]; exact alook_aset_same ..
 have b156 : alook ρ₂ 156 = some (.int a) := by
  show alook (aset (aset ρ₁ 156 (.int a)) 160 (.int b)) 156 = _
  rw [alook_aset_ne _ _ (by decide)]; exact alook_aset_same ..
 have b160 : alook ρ₂ 160 = some (.int b) := alook_aset_same ..
 have hd4 := K₁₄.keep _ _ (by simpa using hdp) hd
 have hd6 := K.keep _ _ (by simpa using hdp) hd
 have htup : Ev C (n + 2) (.tup [.var 233, .var 156, .var 160, .call (.glob 33) [.var 208, .list [.lit (.str 48), .lit (.str 53), .lit (.str 59), .lit (.str 76)]]]) ρ₂ σ₄ (DD.v ⟨w, a, b, s⟩) σ₆ :=
  .tup (.cons (.var b233) (.cons (.var b156) (.cons (.var b160) (.cons (.call (gl_law_one H) (ke_law_one H) (.cons (.var b208) (.cons ev_sitesL .nil)) hc₆) .nil))))
 have happ := CallEv.append (C := C) (n := n + 2) (v := DD.v ⟨w, a, b, s⟩) hd6 (by rw [sizeLine_eq]; simp; lia)
 have e : ds.map DD.v ++ [DD.v ⟨w, a, b, s⟩] = List.map DD.v (ds ++ [DD.mk w a b s]) := by simp
 rw [e] at happ
 exact ⟨ρ₂, σ₆, ⟨w, a, b, s⟩, .cons (.setv (.call (gl_law_one H) (ke_law_one H) (.cons (.var h208) (.cons ev_words .nil)) hc₂)) (.cons (.sett (.tup (.cons (.call (gl_law_take H) (ke_law_take H) (.cons (.var a208) (.cons .lit .nil)) hc₃) (.cons (.call (gl_law_take H) (ke_law_take H) (.cons (.var a208) (.cons .lit .nil)) hc₄) .nil))))
  (.cons (.expr (Ev.methB (.var b91) (kind_list hd4) bm_append (ha := .cons htup .nil) (hq := happ))) .nil)), K, hs₆, ⟨hww, ⟨ha0, ha1⟩, ⟨hb0, hb1⟩, hsk⟩, hρ⟩
theorem law_deeds_spec (H : L1 C) (hs : Src σ p) :
  E3 fun (σ' : MH) (q : Nat) (ds : List DD) => N6 (CallEv C (n + 3) (.ref 345) [.loc p] σ (.loc q) σ') (Kp [p] σ σ') (Src σ' p) (σ.length ≤ q) (σ'[q]? = some (.list (ds.map DD.v))) (∀ x ∈ ds, x.Ok) := by
 let ρ₀ : List (Nat × MV) := aset [(208, .loc p)] 91 (.loc σ.length)
 have hpl := hs.lt
 have K₁ : Kp [] σ (σ ++ [MO.list []]) := Kp.new ..
 obtain ⟨σ₂, r, hc₂, K₂, hs₂, hr0, hr1⟩ := law_take_spec (n := n + 1) (top := 6) H (hs.keep K₁ (by simp)) (by decide) (by decide)
 have hit : ItEv C (n + 2) (.call (.glob 171) [.bin .Add (.lit (.int 3)) (.call (.glob 46) [.var 208, .lit (.int 6)])]) ρ₀ (σ ++ [.list []]) (rangeMV 0 (3 + r)) (fun _ => True) σ₂ :=
  .range1 (gl_range H) (.cons (.bin .lit (.call (gl_law_take H) (ke_law_take H) (.cons (.var rfl) (.cons .lit .nil)) hc₂) Op.addI) .nil) (by lia) (by lia)
 have K : Kp [p] σ σ₂ := (K₁.up).trans' K₂
 let J : List MV → List (Nat × MV) → MH → Prop := fun rem ρ' σ' => ∃ ds, N7 (ds.length + rem.length ≤ 8) (Kp [p] σ σ') (Src σ' p) (σ'[σ.length]? = some (.list (List.map DD.v ds))) ((∀ x ∈ ds, x.Ok)) (alook ρ' 208 = some (.loc p)) (alook ρ' 91 = some (.loc σ.length))
 obtain ⟨ρ', σ', hlp, ds, _, K', hs', hd', hok, _, h91⟩ : E2 fun ρ' σ' => Loop C (n + 2) (.v 229) deedsBody (fun _ => True) (rangeMV 0 (3 + r)) ρ₀ σ₂ .next ρ' σ' ∧ J [] ρ' σ' := by
  refine Loop.inv J ?_ (fun _ _ _ => trivial) _ ρ₀ σ₂ ⟨[], by simp [rangeMV]; lia, K, hs₂, K₂.keep _ _ (by simp; lia) (get_new ..), by simp, rfl, rfl⟩
  rintro y rem ρ₁ σ₃ ⟨ds, hl, K₃, hs₃, hd₃, hok, h1, h2⟩
  simp only [List.length_cons] at hl
  obtain ⟨ρ₄, σ₄, x, hX, K₄, hs₄, hx, hρ⟩ := deeds_turn (n := n) (ρ := aset ρ₁ 229 y) H hs₃ hd₃ (by lia) (by lia) (look_ne h1 (by decide)) (look_ne h2 (by decide))
  have hlt : σ.length < σ₄.length := by have := (List.getElem?_eq_some_iff.mp hd₃).1; have := K₄.len; lia
  refine ⟨trivial, _, .next, ρ₄, _, rfl, hX, .inl rfl, ds ++ [x], by simp; lia, (K₃.trans' K₄).setNewD (Nat.le_refl _), ?_, List.getElem?_set_self hlt, fun z hz => ?_, by rw [hρ 208 (by decide) (by decide) (by decide), alook_aset_ne _ _ (by decide)]; exact h1, by rw [hρ 91 (by decide) (by decide) (by decide), alook_aset_ne _ _ (by decide)]; exact h2⟩
  ·obtain ⟨g, s, q1, q2⟩ := hs₄
   exact ⟨g, s, by rw [List.getElem?_set_ne (by lia)]; exact q1, q2⟩
  ·rcases List.mem_append.mp hz with hz | hz
   ·exact hok z hz
   ·simp at hz; subst hz; exact hx
 exact ⟨σ', σ.length, ds, .fn (fn_law_deeds H) (.cons (.setv (.list .nil)) (.cons (.for hit hlp) (.out (.ret (.var h91)) (by simp)))) (.inl rfl), K', hs', Nat.le_refl _, hd', hok⟩
end
end Mine
namespace Mine
open PySem PySem.W PyProof.Rows PySem.Calls PySem.Spec PySem.SeqAt
noncomputable def cmpT : MV → MV → Bool
 | .tup a, .tup b => cmpL a b
 | _, _ => true
theorem cmpT_tup {x y : MV} {a b : List MV} (h : cmpT x y = true) (h1 : x = .tup a) (h2 : y = .tup b) : cmpL a b = true := by subst h1; subst h2; exact h
theorem cmp_toks : ∀ x ∈ allToks, ∀ y ∈ allToks, cmpT x y = true := by decide
theorem cmp_kept : ∀ x ∈ allKept, ∀ y ∈ allKept, cmpT x y = true := by decide
theorem sort_toks {xs : List MV} (hn : xs.Nodup) (h : ∀ v ∈ xs, TokOk v) : SortOk xs := by
 refine ⟨hn, .inr (.inr ⟨fun x hx => ?_, .inr fun x hx => ?_, fun x hx y hy a b h1 h2 => cmpT_tup (cmp_toks x (h x hx).mem y (h y hy).mem) h1 h2⟩)⟩
 ·obtain ⟨xs, he, hf⟩ := (h x hx).flat
  cases h x hx with
  | site hk => exact ⟨_, _, rfl, by cases he; exact hf⟩
  | outer ho => exact ⟨_, _, rfl, by cases he; exact hf⟩
  | beyond => exact ⟨_, _, rfl, by cases he; exact hf⟩
 ·cases h x hx <;> exact ⟨_, _, rfl⟩
theorem sort_kept {xs : List MV} (hn : xs.Nodup) (h : ∀ v ∈ xs, KeptOk v) : SortOk xs := by
 refine ⟨hn, .inr (.inr ⟨fun x hx => ?_, .inl fun x hx => ?_, fun x hx y hy a b h1 h2 => cmpT_tup (cmp_kept x (h x hx).mem y (h y hy).mem) h1 h2⟩)⟩
 ·obtain ⟨i, hi, o, ho, rfl⟩ := h x hx
  exact ⟨_, _, rfl, fun y hy => by simp at hy; rcases hy with rfl | rfl <;> exact ⟨_, rfl⟩⟩
 ·obtain ⟨i, hi, o, ho, rfl⟩ := h x hx
  exact ⟨_, _, rfl⟩
theorem sort_sites {xs : List MV} (hn : xs.Nodup) (h : ∀ v ∈ xs, SiteOk v) : SortOk xs :=
 ⟨hn, .inr (.inl fun x hx => by obtain ⟨k, hk, rfl⟩ := h x hx; exact ⟨k, rfl, by rw [tab_len]; exact site_lt hk⟩)⟩
theorem sort_outs {xs : List MV} (hn : xs.Nodup) (h : ∀ v ∈ xs, OutOk v) : SortOk xs :=
 ⟨hn, .inl fun x hx => by obtain ⟨k, hk, rfl⟩ := h x hx; exact ⟨k, rfl⟩⟩
noncomputable def SetOk (P : MV → Prop) : Prop := ∀ xs : List MV, xs.Nodup → (∀ v ∈ xs, P v) → SortOk xs ∧ xs.length < 64 ∧ pvs xs 8 = true
theorem set_toks {P : MV → Prop} (h : ∀ v, P v → TokOk v) : SetOk P := fun xs hn hx =>
 ⟨sort_toks hn fun v hv => h v (hx v hv), by have := toks_short hn fun v hv => h v (hx v hv); lia, pvs_toks fun v hv => h v (hx v hv)⟩
theorem set_kept {P : MV → Prop} (h : ∀ v, P v → KeptOk v) : SetOk P := fun xs hn hx =>
 ⟨sort_kept hn fun v hv => h v (hx v hv), by have := length_le_of_sub hn fun v hv => (h v (hx v hv)).mem; simp [allKept] at this; lia, pvs_all fun v hv => (h v (hx v hv)).pv⟩
theorem set_sites {P : MV → Prop} (h : ∀ v, P v → SiteOk v) : SetOk P := fun xs hn hx =>
 ⟨sort_sites hn fun v hv => h v (hx v hv), by have := length_le_of_sub hn fun v hv => (h v (hx v hv)).mem; simp [allSites] at this; lia, pvs_all fun v hv => (h v (hx v hv)).pv⟩
theorem set_outs {P : MV → Prop} (h : ∀ v, P v → OutOk v) : SetOk P := fun xs hn hx =>
 ⟨sort_outs hn fun v hv => h v (hx v hv), by have := length_le_of_sub hn fun v hv => (h v (hx v hv)).mem; simp at this; lia, pvs_all fun v hv => (h v (hx v hv)).pv⟩
noncomputable def RowAt (σ : MH) (i : Nat) (xs : List MV) : Prop := σ[i]? = some (.list xs) ∨ ∃ ep, σ[i]? = some (.dict ep (tds xs))
noncomputable def RowEv (C : Cx) (n : Nat) (e : IE) (ρ : List (Nat × MV)) (σ : MH) (P : MV → Prop) : Prop :=
 ∃ i xs σ', Ev C n e ρ σ (.loc i) σ' ∧ Kp [] σ σ' ∧ RowAt σ' i xs ∧ xs.Nodup ∧ ∀ v, v ∈ xs ↔ P v
section
variable {C : Cx} {n : Nat} {σ₀ σ σ' : MH} {ρ : List (Nat × MV)} {e e1 e2 : IE} {P Q : MV → Prop} {xs : List MV} {i : Nat}
theorem RowEv.congr (h : RowEv C n e ρ σ P) (hp : ∀ v, P v ↔ Q v) : RowEv C n e ρ σ Q := by
 obtain ⟨i, xs, σ', h1, h2, h3, h4, h5⟩ := h
 exact ⟨i, xs, σ', h1, h2, h3, h4, fun v => (h5 v).trans (hp v)⟩
theorem RowAt.sorted (h : RowAt σ i xs) (S : SortOk xs) (hl : xs.length < 64) : CallEv C n (.builtin "sorted") [.loc i] σ (.loc σ.length) (σ ++ [.list (sortM xs)]) := by
 rcases h with h | ⟨ep, h⟩
 ·exact .sortedL h S hl
 ·have := CallEv.sortedD (C := C) (n := n) h (by rw [keys_tds]; exact S) (by simpa [tds] using hl)
  rwa [keys_tds] at this
theorem sorted_pair (H : L1 C) (h1 : RowEv C n e1 ρ σ P) (h2 : ∀ σ', Kp [] σ σ' → RowEv C n e2 ρ σ' P) (hP : SetOk P) :
  E5 fun σ₁ σ' i j zs => N6 (Ev C n (.call (.glob 207) [e1]) ρ σ (.loc i) σ₁) (Ev C n (.call (.glob 207) [e2]) ρ σ₁ (.loc j) σ') (Kp [] σ σ') (σ'[i]? = some (.list zs)) (σ'[j]? = some (.list zs)) (pvs zs 8 = true) := by
 obtain ⟨i, xs, σ₁, he1, K₁, hr1, hn1, hm1⟩ := h1
 obtain ⟨s1, l1, p1⟩ := hP xs hn1 fun v hv => (hm1 v).mp hv
 have K₂ : Kp [] σ₁ (σ₁ ++ [.list (sortM xs)]) := Kp.new ..
 obtain ⟨j, ys, σ₃, he2, K₃, hr2, hn2, hm2⟩ := h2 _ (K₁.trans' K₂)
 obtain ⟨s2, l2, p2⟩ := hP ys hn2 fun v hv => (hm2 v).mp hv
 have hperm : ys.Perm xs := (List.perm_ext_iff_of_nodup hn2 hn1).mpr fun v => (hm2 v).trans (hm1 v).symm
 have e : sortM ys = sortM xs := sortM_congr s1 hperm
 have hs2 := hr2.sorted (C := C) (n := n) s2 l2
 rw [e] at hs2
 refine ⟨_, _, σ₁.length, σ₃.length, sortM xs, .call (gl_sorted H) (.inl fun _ q => by cases q) (.cons he1 .nil) (hr1.sorted s1 l1), .call (gl_sorted H) (.inl fun _ q => by cases q) (.cons he2 .nil) hs2, ((K₁.trans' K₂).trans' K₃).trans' (Kp.new ..), (K₃.trans' (Kp.new ..)).get (get_new ..), get_new .., ?_⟩
 refine pvs_all fun v hv => ?_
 have hv' := (sortM_perm xs).mem_iff.mp hv
 have : ∀ {l : List MV}, pvs l 8 = true → ∀ v ∈ l, pv v 8 = true := fun {l} h v hv => by
  induction l with
  | nil => simp at hv
  | cons x l ih =>
   simp only [pvs, Bool.and_eq_true] at h
   rcases List.mem_cons.mp hv with rfl | hv
   ·exact h.1
   ·exact ih h.2 hv
 exact this p1 v hv'
theorem sorted_ne (H : L1 C) (h1 : RowEv C n e1 ρ σ P) (h2 : ∀ σ', Kp [] σ σ' → RowEv C n e2 ρ σ' P) (hP : SetOk P) :
  ∃ σ', Tst C n (.cmp .NotEq (.call (.glob 207) [e1]) (.call (.glob 207) [e2])) ρ σ false σ' ∧ Kp [] σ σ' := by
 obtain ⟨σ₁, σ', i, j, zs, a, b, K, hi, hj, hp⟩ := sorted_pair H h1 h2 hP
 have := Tst.cmp a b (Op.neL hi hj hp hp)
 rw [MV.beqs_refl] at this
 exact ⟨σ', this, K⟩
theorem sorted_eq (H : L1 C) (h1 : RowEv C n e1 ρ σ P) (h2 : ∀ σ', Kp [] σ σ' → RowEv C n e2 ρ σ' P) (hP : SetOk P) :
  ∃ σ', Ev C n (.cmp .Eq (.call (.glob 207) [e1]) (.call (.glob 207) [e2])) ρ σ (.bool true) σ' ∧ Kp [] σ σ' := by
 obtain ⟨σ₁, σ', i, j, zs, a, b, K, hi, hj, hp⟩ := sorted_pair H h1 h2 hP
 have := Ev.cmp a b (Op.eqL hi hj hp hp)
 rw [MV.beqs_refl] at this
 exact ⟨σ', this, K⟩
end
end Mine
namespace Mine
open PySem PySem.W PyProof.Rows PySem.Calls PySem.Spec PySem.SeqAt
structure Agree (S Z : TS) : Prop where
 to : Sub S Z
 from_ : Sub Z S
section
variable {C : Cx} {n l k : Nat} {σ₀ σ σ' : MH} {L : FL} {B : BL} {S Z : TS} {ρ : List (Nat × MV)} {e : IE} {P Q : MV → Prop} {ts : List MV} {r : Int}
theorem Agree.held (A : Agree S Z) (r : Int) (v : MV) : heldT S r v ↔ heldT Z r v := ⟨A.to.held r v, A.from_.held r v⟩
theorem Agree.next (A : Agree S Z) (u v : MV) : Next S u v ↔ Next Z u v := ⟨fun h => h.mono A.to, fun h => h.mono A.from_⟩
theorem Agree.reach (A : Agree S Z) (v : MV) : Reach S P v ↔ Reach Z P v := ⟨fun h => h.mono A.to fun _ h => h, fun h => h.mono A.from_ fun _ h => h⟩
theorem Agree.loads (A : Agree S Z) (v : MV) : (∃ u ∈ ts, Loads S u v) ↔ ∃ u ∈ ts, Loads Z u v := by
 unfold Loads
 simp only [A.next]
theorem row_tokens (H : L1 C) (W : FlowAt σ L S) (h88 : alook ρ 88 = some (.inst 208 L.f)) (he : Ev C (n + 2) e ρ σ (.int r) σ) : RowEv C (n + 2) (.meth (.var 88) 223 [.tup [.lit (.str 176), e]]) ρ σ (heldT S r) := by
 obtain ⟨σ₁, q, ts, hc, K₁, hql, ht, hn, hT⟩ := tokens_reg (n := n) (r := r) H W
 exact ⟨q, ts, σ₁, ev_methV H W h88 (by decide) (me_EscapeFlow_tokens_of H) (.cons (.tup (.cons .lit (.cons he .nil))) .nil) hc, K₁, .inl ht.1, hn, hT⟩
theorem row_var {j : Nat} {xs : List MV} (hj : alook ρ j = some (.loc l)) (h : RowAt σ l xs) (hn : xs.Nodup) : RowEv C n (.var j) ρ σ (· ∈ xs) := ⟨l, xs, σ, .var hj, Kp.refl .., h, hn, fun _ => Iff.rfl⟩
theorem row_reached (H : L1 C) (W : FlowAt σ L S) (h88 : alook ρ 88 = some (.inst 208 L.f)) (h222 : alook ρ 222 = some (.loc l)) (ht : LRow σ l ts) (hl : ts.length ≤ 100) : RowEv C (n + 3) (.meth (.var 88) 172 [.var 222]) ρ σ (Reach S (· ∈ ts)) := by
 obtain ⟨σ₁, q, zs, hc, K₁, hql, hr, hn, hT⟩ := reached_spec (n := n) H W ht hl
 exact ⟨q, zs, σ₁, ev_methV H W h88 (by decide) (me_EscapeFlow_reached H) (.cons (.var h222) .nil) hc, K₁, .inl hr.1, hn, hT⟩
theorem row_all (H : L1 C) (W : BookAt σ B Z) (h57 : alook ρ 57 = some (.loc B.b)) (h222 : alook ρ 222 = some (.loc l)) (ht : LRow σ l ts) (hl : ts.length ≤ 100) : RowEv C (n + 3) (.call (.glob 24) [.var 57, .var 222]) ρ σ (Reach Z (· ∈ ts)) := by
 obtain ⟨σ₁, q, zs, hc, K₁, hql, hr, hn, hT⟩ := law_all_spec (n := n) H W ht hl
 exact ⟨q, zs, σ₁, .call (gl_law_all H) (ke_law_all H) (.cons (.var h57) (.cons (.var h222) .nil)) hc, K₁, .inl hr.1, hn, hT⟩
theorem row_loaded (H : L1 C) (W : FlowAt σ L S) (h88 : alook ρ 88 = some (.inst 208 L.f)) (h222 : alook ρ 222 = some (.loc l)) (ht : LRow σ l ts) : RowEv C (n + 2) (.meth (.var 88) 126 [.var 222]) ρ σ (fun v => ∃ u ∈ ts, Loads S u v) := by
 obtain ⟨σ₁, q, zs, hc, K₁, hql, hr, hn, hT⟩ := loaded_spec (n := n) H W ht
 exact ⟨q, zs, σ₁, ev_methV H W h88 (by decide) (me_EscapeFlow_loaded H) (.cons (.var h222) .nil) hc, K₁, .inl hr.1, hn, hT⟩
theorem row_read (H : L1 C) (W : BookAt σ B Z) (h57 : alook ρ 57 = some (.loc B.b)) (h222 : alook ρ 222 = some (.loc l)) (ht : LRow σ l ts) : RowEv C (n + 3) (.call (.glob 39) [.var 57, .var 222]) ρ σ (fun v => ∃ u ∈ ts, Loads Z u v) := by
 obtain ⟨σ₁, q, zs, hc, K₁, hql, hr, hn, hT⟩ := law_read_spec (n := n) H W ht
 exact ⟨q, zs, σ₁, .call (gl_law_read H) (ke_law_read H) (.cons (.var h57) (.cons (.var h222) .nil)) hc, K₁, .inl hr.1, hn, hT⟩
theorem row_inside (H : L1 C) (W : FlowAt σ L S) (h88 : alook ρ 88 = some (.inst 208 L.f)) (hk : k ∈ [48, 53, 59, 76]) (he : Ev C (n + 1) e ρ σ (.str k) σ) : RowEv C (n + 1) (.meth (.attr (.var 88) 104) 93 [e, .dict [] []]) ρ σ (insT S k) := by
 obtain ⟨l, ep, ks, hev, hl, hn, hm, _⟩ := inside_get W hk he (o := .attr (.var 88) 104) (ev_finside H W (.var h88))
 exact ⟨l, ks, _, hev, Kp.new .., .inr ⟨ep, hl⟩, hn, hm⟩
theorem insT_iff (W : TOK S) (hl : (k, l) ∈ S.inside) : ∀ v, v ∈ S.T l ↔ insT S k v := fun v => ⟨fun h => ⟨l, hl, h⟩, fun ⟨l', h1, h2⟩ => by
 have := find_key W.keysI h1
 rw [find_key W.keysI hl] at this
 cases this; exact h2⟩
theorem row_binside (W : BookAt σ B Z) (h57 : alook ρ 57 = some (.loc B.b)) (hk : k ∈ [48, 53, 59, 76]) (he : Ev C (n + 1) e ρ σ (.str k) σ) : RowEv C (n + 1) (.sub (.sub (.var 57) (.lit (.str 104))) e) ρ σ (insT Z k) := by
 obtain ⟨l, hev, hl, hT⟩ := ev_binside_at W h57 hk he
 exact ⟨l, _, σ, hev, Kp.refl .., .inl hT, W.ok.rows l (ins_tab hl), insT_iff W.ok hl⟩
theorem insT_ok (W : TOK S) {v : MV} (h : insT S k v) : TokOk v := by
 obtain ⟨l, h1, h2⟩ := h
 exact W.toks l (.inr (List.mem_map.mpr ⟨_, h1, rfl⟩)) v h2
theorem row_ftab (W : FlowAt σ L S) {t : Nat} (ht : t ∈ S.tabs) (he : Ev C n e ρ σ (.loc t) σ) : RowEv C n e ρ σ (· ∈ S.T t) := by
 obtain ⟨ep, h⟩ := W.tab t ht
 exact ⟨t, S.T t, σ, he, Kp.refl .., .inr ⟨ep, h⟩, W.ok.rows t ht, fun _ => Iff.rfl⟩
theorem row_btab (W : BookAt σ B Z) {t : Nat} (ht : t ∈ Z.tabs) (he : Ev C n e ρ σ (.loc t) σ) : RowEv C n e ρ σ (· ∈ Z.T t) :=
 ⟨t, Z.T t, σ, he, Kp.refl .., .inl (W.tab t ht), W.ok.rows t ht, fun _ => Iff.rfl⟩
noncomputable abbrev regsBody : List IS := [
  .setv 222 (.sub (.sub (.var 57) (.lit (.str 101))) (.var 177)),
  .ite (.cmp .NotEq (.call (.glob 207) [.meth (.var 88) 223 [.tup [.lit (.str 176), .var 177]]]) (.call (.glob 207) [.var 222])) [
   .ret (.lit (.bool false))] [],
  .ite (.cmp .NotEq (.call (.glob 207) [.meth (.var 88) 172 [.var 222]]) (.call (.glob 207) [.call (.glob 24) [.var 57, .var 222]])) [
   .ret (.lit (.bool false))] [],
  .ite (.cmp .NotEq (.call (.glob 207) [.meth (.var 88) 126 [.var 222]]) (.call (.glob 207) [.call (.glob 39) [.var 57, .var 222]])) [
   .ret (.lit (.bool false))] []]
theorem regs_turn (H : L1 C) (W : FlowAt σ L S) (V : BookAt σ B Z) (A : Agree S Z) (hr : 0 ≤ r ∧ r < 6) (h88 : alook ρ 88 = some (.inst 208 L.f)) (h57 : alook ρ 57 = some (.loc B.b)) (h177 : alook ρ 177 = some (.int r)) :
  E2 fun ρ' σ' => N3 (Xs C (n + 3) regsBody ρ σ .next ρ' σ') (Kp [] σ σ') (∀ j, j ≠ 222 → alook ρ' j = alook ρ j) := by
 obtain ⟨l, hev, hl, hT⟩ := ev_bheld_at (n := n + 2) V h57 hr (.var h177)
 let ρ₁ := aset ρ 222 (.loc l)
 have hρ : ∀ j, j ≠ 222 → alook ρ₁ j = alook ρ j := fun j hj => alook_aset_ne _ _ hj
 have b88 : alook ρ₁ 88 = some (.inst 208 L.f) := by rw [hρ _ (by decide)]; exact h88
 have b57 : alook ρ₁ 57 = some (.loc B.b) := by rw [hρ _ (by decide)]; exact h57
 have b177 : alook ρ₁ 177 = some (.int r) := by rw [hρ _ (by decide)]; exact h177
 have b222 : alook ρ₁ 222 = some (.loc l) := alook_aset_same ..
 have hi := heldT_iff V.ok hl
 have hlen := V.ok.length (held_tab hl)
 have hnd := V.ok.rows l (held_tab hl)
 have htok : ∀ v ∈ Z.T l, TokOk v := fun v hv => heldT_ok V.ok ((hi v).mp hv)
 generalize Z.T l = ts at hT hi hlen hnd htok
 have lr : ∀ {σ'}, Kp [] σ σ' → LRow σ' l ts := fun K => ⟨K.get hT, htok⟩
 obtain ⟨σ₁, t₁, K₁⟩ := sorted_ne (P := heldT S r) H (row_tokens (n := n + 1) H W b88 (.var b177)) (fun σ' K => (row_var b222 (.inl (lr K).1) hnd).congr fun v => (hi v).trans (A.held r v).symm) (set_toks fun v h => heldT_ok W.ok h)
 have W₁ := W.keep K₁
 have V₁ := V.keep0 K₁
 obtain ⟨σ₂, t₂, K₂⟩ := sorted_ne (P := Reach S (· ∈ ts)) H (row_reached (n := n) H W₁ b88 b222 (lr K₁) (by lia)) (fun σ' K => (row_all H (V₁.keep0 K) b57 b222 (lr (K₁.trans' K)) (by lia)).congr fun v => (A.reach v).symm) (set_toks fun v h => reach_ok W.ok htok h)
 have W₂ := W₁.keep K₂
 have V₂ := V₁.keep0 K₂
 obtain ⟨σ₃, t₃, K₃⟩ := sorted_ne (P := fun v => ∃ u ∈ ts, Loads S u v) H (row_loaded (n := n + 1) H W₂ b88 b222 (lr (K₁.trans' K₂))) (fun σ' K => (row_read H (V₂.keep0 K) b57 b222 (lr ((K₁.trans' K₂).trans' K))).congr fun v => (A.loads v).symm) (set_toks fun v ⟨u, hu, h⟩ => loads_ok W.ok (htok u hu) h)
 exact ⟨ρ₁, σ₃, .cons (.setv hev) (.cons (.ite_f t₁ .nil) (.cons (.ite_f t₂ .nil) (.cons (.ite_f t₃ .nil) .nil))), (K₁.trans' K₂).trans' K₃, hρ⟩
end
end Mine
namespace Mine
open PySem PySem.W PyProof.Rows PySem.Calls PySem.Spec PySem.SeqAt
noncomputable def someB (S : TS) : MV → Bool
 | .tup [.str 202, .str k] => !hasM (S.T S.gone) (.str k)
 | _ => false
theorem someB_sv (S : TS) (k : Nat) : someB S (sv k) = !hasM (S.T S.gone) (.str k) := rfl
theorem someB_ov (S : TS) (o : Int) : someB S (ov o) = false := rfl
theorem someB_bv (S : TS) : someB S bv = false := rfl
section
variable {C : Cx} {n l k : Nat} {σ₀ σ σ' : MH} {L : FL} {B : BL} {S Z : TS} {ρ : List (Nat × MV)} {e : IE} {P Q : MV → Prop} {ts : List MV} {r : Int}
theorem Agree.sites (A : Agree S Z) (W : TOK S) (V : TOK Z) (v : MV) : v ∈ S.T S.sites ↔ v ∈ Z.T Z.sites := by
 constructor <;> intro h
 ·obtain ⟨k, _, rfl⟩ := W.site v h; exact A.to.site k h
 ·obtain ⟨k, _, rfl⟩ := V.site v h; exact A.from_.site k h
theorem Agree.gone (A : Agree S Z) (W : TOK S) (V : TOK Z) (v : MV) : v ∈ S.T S.gone ↔ v ∈ Z.T Z.gone := by
 constructor <;> intro h
 ·obtain ⟨k, _, rfl⟩ := W.gon v h; exact A.to.gone k h
 ·obtain ⟨k, _, rfl⟩ := V.gon v h; exact A.from_.gone k h
theorem Agree.leaks (A : Agree S Z) (W : TOK S) (V : TOK Z) (v : MV) : v ∈ S.T S.leaks ↔ v ∈ Z.T Z.leaks := by
 constructor <;> intro h
 ·obtain ⟨k, _, rfl⟩ := W.leak v h; exact A.to.leak k h
 ·obtain ⟨k, _, rfl⟩ := V.leak v h; exact A.from_.leak k h
theorem Agree.kept (A : Agree S Z) (W : TOK S) (V : TOK Z) (v : MV) : v ∈ S.T S.kept ↔ v ∈ Z.T Z.kept := by
 constructor <;> intro h
 ·obtain ⟨i, _, o, _, rfl⟩ := W.kep v h; exact A.to.kept i o h
 ·obtain ⟨i, _, o, _, rfl⟩ := V.kep v h; exact A.from_.kept i o h
noncomputable abbrev someTest : IE := .and [.cmp .Eq (.sub (.var 221) (.lit (.int 0))) (.lit (.str 202)), .cmp .NotIn (.sub (.var 221) (.lit (.int 1))) (.attr (.var 88) 97)]
theorem gone_test (H : L1 C) (W : FlowAt σ L S) (h88 : alook ρ 88 = some (.inst 208 L.f)) (hk : k ∈ [48, 53, 59, 76]) (he : Ev C (n + 1) e ρ σ (.str k) σ) : Tst C (n + 1) (.cmp .NotIn e (.attr (.var 88) 97)) ρ σ (!hasM (S.T S.gone) (.str k)) σ ∧ Tst C (n + 1) (.cmp .In e (.attr (.var 88) 97)) ρ σ (hasM (S.T S.gone) (.str k)) σ := by
 obtain ⟨eg, hg⟩ := W.tab _ (gone_tab S)
 have hfit : FitK (S.T S.gone) (.str k) := .inl ⟨str_atom (site_lt hk), fun x hx => (W.ok.gon x hx).atom⟩
 exact ⟨.cmp he (ev_fgone H W (.var h88)) (notIn_tds hg hfit), .cmp he (ev_fgone H W (.var h88)) (in_tds hg hfit)⟩
theorem some_test (H : L1 C) (W : FlowAt σ L S) (h88 : alook ρ 88 = some (.inst 208 L.f)) {x : MV} (hx : TokOk x) (h221 : alook ρ 221 = some x) : Tst C (n + 1) someTest ρ σ (someB S x) σ := by
 cases hx with
 | @site k hk =>
  rw [someB_sv]
  have t1 : Tst C (n + 1) (.cmp .Eq (.sub (.var 221) (.lit (.int 0))) (.lit (.str 202))) ρ σ true σ := ev_hd (h := .str 202) (r := [.str k]) h221 (by decide) (by decide)
  have t2 := (gone_test (n := n) (e := .sub (.var 221) (.lit (.int 1))) H W h88 hk (ev_item1 (.var h221))).1
  cases hb : hasM (S.T S.gone) (.str k) with
  | true => rw [hb] at t2; exact .and (.andT t1 (.andF t2))
  | false => rw [hb] at t2; exact .and (.andT t1 (.andT t2 .nilA))
 | outer ho => exact .and (.andF (ev_hd (h := .str 162) h221 (by decide) (by decide)))
 | beyond => exact .and (.andF (ev_hd (h := .str 54) h221 (by decide) (by decide)))
noncomputable abbrev sitesBody : List IS := [
  .ite (.cmp .NotEq (.call (.glob 207) [.meth (.attr (.var 88) 104) 93 [.var 202, .dict [] []]]) (.call (.glob 207) [.sub (.sub (.var 57) (.lit (.str 104))) (.var 202)])) [
   .ret (.lit (.bool false))] [],
  .setc 206 (.comp [88] (.var 221) [.v 221] [.sub (.sub (.var 57) (.lit (.str 104))) (.var 202)] [[someTest]]),
  .ite (.and [.cmp .In (.var 202) (.attr (.var 88) 97), .cmp .NotEq (.var 206) (.list [])]) [
   .ret (.lit (.bool false))] []]
theorem sites_turn (H : L1 C) (W : FlowAt σ L S) (V : BookAt σ B Z) (A : Agree S Z) (G : GInv S) (hk : k ∈ [48, 53, 59, 76]) (h88 : alook ρ 88 = some (.inst 208 L.f)) (h57 : alook ρ 57 = some (.loc B.b)) (h202 : alook ρ 202 = some (.str k)) :
  E2 fun ρ' σ' => N3 (Xs C (n + 1) sitesBody ρ σ .next ρ' σ') (Kp [] σ σ') (∀ j, j ≠ 206 → alook ρ' j = alook ρ j) := by
 obtain ⟨σ₁, t₁, K₁⟩ := sorted_ne (P := insT S k) H (row_inside (n := n) H W h88 hk (.var h202)) (fun σ' K => (row_binside (V.keep0 K) h57 hk (.var h202)).congr fun v => ⟨A.from_.ins k v, A.to.ins k v⟩) (set_toks fun v h => insT_ok W.ok h)
 have W₁ := W.keep K₁
 have V₁ := V.keep0 K₁
 obtain ⟨l, hev, hl, hT⟩ := ev_binside_at (n := n) V₁ h57 hk (.var h202)
 have hi := insT_iff V.ok hl
 have hlen := V.ok.length (ins_tab hl)
 obtain ⟨ρc, hc⟩ := cl_one (C := C) (n := n + 1) (τ := σ₁) (b := someB S) (g := fun v => v) (dep := fun σ' => σ'[l]? = some (.list (Z.T l))) (t := .v 221) (f := [someTest]) (elt := .var 221) (fun ys => (Kp.new [] σ₁ _).get hT) (fun ρ => alook ρ 88 = some (.inst 208 L.f)) (Z.T l) (fun x hx ρ h1 ys => by
   have hρ : alook (aset ρ 221 x) 88 = some (.inst 208 L.f) := look_ne h1 (by decide)
   exact ⟨aset ρ 221 x, rfl, hρ, .one (some_test H (W₁.keep (Kp.new ..)) hρ (insT_ok V.ok ((hi x).mp hx)) (alook_aset_same ..)), fun _ => .var (alook_aset_same ..)⟩) [] (capr ρ [88]) (by simp; lia) (capr1 h88)
 rw [List.nil_append, List.map_id'] at hc
 let ws := (Z.T l).filter (someB S)
 have hX : X1 C (n + 1) (.setc 206 (.comp [88] (.var 221) [.v 221] [.sub (.sub (.var 57) (.lit (.str 104))) (.var 202)] [[someTest]])) ρ σ₁ .next (aset ρ 206 (.loc σ₁.length)) (σ₁ ++ [.list ws]) := .setc (.of hev (.list hT)) hc
 have K₂ : Kp [] σ₁ (σ₁ ++ [.list ws]) := Kp.new ..
 have hw : (σ₁ ++ [MO.list ws])[σ₁.length]? = some (.list ws) := get_new ..
 have W₂ := W₁.keep K₂
 generalize σ₁ ++ [MO.list ws] = σ₂ at hX K₂ hw W₂
 have hρ : ∀ j, j ≠ 206 → alook (aset ρ 206 (.loc σ₁.length)) j = alook ρ j := fun j hj => alook_aset_ne _ _ hj
 have tin := (gone_test (n := n) (e := .var 202) (ρ := aset ρ 206 (.loc σ₁.length)) H W₂ (by rw [hρ _ (by decide)]; exact h88) hk (.var (by rw [hρ _ (by decide)]; exact h202))).2
 by_cases hg : hasM (S.T S.gone) (.str k) = true
 ·rw [hg] at tin
  have hgk : goneT S k := hasM_iff.mp hg
  have hnil : ws = [] := by
   rw [List.filter_eq_nil_iff]
   intro v hv
   have hok := insT_ok V.ok ((hi v).mp hv)
   cases hok with
   | @site k' hk' =>
    have := G k k' hgk (A.from_.ins _ _ ((hi _).mp hv))
    rw [someB_sv, hasM_iff.mpr this]; simp
   | outer ho => simp [someB_ov]
   | beyond => simp [someB_bv]
  have tne : Tst C (n + 1) (.cmp .NotEq (.var 206) (.list [])) (aset ρ 206 (.loc σ₁.length)) σ₂ false (σ₂ ++ [.list []]) := by
   have := notEmpty (C := C) (n := n + 1) (.var (alook_aset_same (as := ρ) (i := 206) (v := .loc σ₁.length))) hw (by rw [hnil]; rfl)
   rw [hnil] at this; exact this
  exact ⟨_, _, .cons (.ite_f t₁ .nil) (.cons hX (.cons (.ite_f (.and (.andT tin (.andF tne))) .nil) .nil)), (K₁.trans' K₂).trans' (Kp.new ..), hρ⟩
 ·have hg' : hasM (S.T S.gone) (.str k) = false := by simpa using hg
  rw [hg'] at tin
  exact ⟨_, _, .cons (.ite_f t₁ .nil) (.cons hX (.cons (.ite_f (.and (.andF tin)) .nil) .nil)), K₁.trans' K₂, hρ⟩
end
end Mine
namespace Mine
open PySem PySem.W PyProof.Rows PySem.Calls PySem.Spec PySem.SeqAt
section
variable {C : Cx} {n l k : Nat} {σ₀ σ σ' : MH} {L : FL} {B : BL} {S Z : TS} {ρ : List (Nat × MV)} {e : IE} {P Q : MV → Prop} {ts : List MV} {r : Int}
theorem law_stands_spec (H : L1 C) (W : FlowAt σ L S) (V : BookAt σ B Z) (A : Agree S Z) (G : GInv S) :
  ∃ σ', CallEv C (n + 4) (.ref 350) [.inst 208 L.f, .loc B.b] σ (.bool true) σ' ∧ Kp [] σ σ' := by
 let ρ₀ : List (Nat × MV) := [(88, .inst 208 L.f), (57, .loc B.b)]
 let I : List (Nat × MV) → Prop := fun ρ => alook ρ 88 = some (.inst 208 L.f) ∧ alook ρ 57 = some (.loc B.b)
 let J₁ : List MV → List (Nat × MV) → MH → Prop := fun rem ρ' σ' => (∀ x ∈ rem, ∃ r : Int, x = .int r ∧ 0 ≤ r ∧ r < 6) ∧ Kp [] σ σ' ∧ I ρ'
 obtain ⟨ρ₁, σ₁, hl₁, _, K₁, I₁⟩ : E2 fun ρ' σ' => Loop C (n + 3) (.v 177) regsBody (fun _ => True) (rangeMV 0 6) ρ₀ σ .next ρ' σ' ∧ J₁ [] ρ' σ' := by
  refine Loop.inv J₁ ?_ (fun _ _ _ => trivial) (rangeMV 0 6) ρ₀ σ ⟨fun x hx => ?_, Kp.refl .., rfl, rfl⟩
  ·rintro x rem ρ₂ σ₂ ⟨hr, K₂, i1, i2⟩
   obtain ⟨r, rfl, hr0, hr1⟩ := hr x (by simp)
   obtain ⟨ρ₃, σ₃, hX, K₃, hρ⟩ := regs_turn (n := n) (ρ := aset ρ₂ 177 (.int r)) H (W.keep K₂) (V.keep0 K₂) A ⟨hr0, hr1⟩ (look_ne i1 (by decide)) (look_ne i2 (by decide)) (alook_aset_same ..)
   exact ⟨trivial, _, .next, ρ₃, σ₃, rfl, hX, .inl rfl, fun y hy => hr y (by simp [hy]), K₂.trans' K₃, by rw [hρ _ (by decide), alook_aset_ne _ _ (by decide)]; exact i1, by rw [hρ _ (by decide), alook_aset_ne _ _ (by decide)]; exact i2⟩
  ·simp only [rangeMV, List.mem_map, List.mem_range] at hx
   obtain ⟨k, hk, rfl⟩ := hx
   exact ⟨_, rfl, by lia, by lia⟩
 have hX₁ : X1 C (n + 3) (.for (.v 177) (.call (.glob 171) [.lit (.int 6)]) regsBody) ρ₀ σ .next ρ₁ σ₁ := .for (.range1 (gl_range H) (.cons .lit .nil) (by decide) (by decide)) hl₁
 have K₂ : Kp [] σ₁ (σ₁ ++ [MO.list sitesL]) := Kp.new ..
 have hs : (σ₁ ++ [MO.list sitesL])[σ₁.length]? = some (.list sitesL) := get_new ..
 let J₂ : List MV → List (Nat × MV) → MH → Prop := fun rem ρ' σ' => (∀ x ∈ rem, ∃ k, x = MV.str k ∧ k ∈ [48, 53, 59, 76]) ∧ Kp [] (σ₁ ++ [MO.list sitesL]) σ' ∧ I ρ'
 obtain ⟨ρ₃, σ₃, hl₃, _, K₃, I₃⟩ : E2 fun ρ' σ' => Loop C (n + 3) (.v 202) sitesBody (fun σ' => σ'[σ₁.length]? = some (.list sitesL)) sitesL ρ₁ (σ₁ ++ [MO.list sitesL]) .next ρ' σ' ∧ J₂ [] ρ' σ' := by
  refine Loop.inv J₂ ?_ (fun _ σ' h => h.2.1.get hs) sitesL ρ₁ (σ₁ ++ [MO.list sitesL]) ⟨fun x hx => ?_, Kp.refl .., I₁⟩
  ·rintro x rem ρ₂ σ₂ ⟨hr, K₄, i1, i2⟩
   obtain ⟨k, rfl, hk⟩ := hr x (by simp)
   have K := (K₁.trans' K₂).trans' K₄
   obtain ⟨ρ₃, σ₃, hX, K₃, hρ⟩ := sites_turn (n := n + 2) (ρ := aset ρ₂ 202 (.str k)) H (W.keep K) (V.keep0 K) A G hk (look_ne i1 (by decide)) (look_ne i2 (by decide)) (alook_aset_same ..)
   exact ⟨K₄.get hs, _, .next, ρ₃, σ₃, rfl, hX, .inl rfl, fun y hy => hr y (by simp [hy]), K₄.trans' K₃, by rw [hρ _ (by decide), alook_aset_ne _ _ (by decide)]; exact i1, by rw [hρ _ (by decide), alook_aset_ne _ _ (by decide)]; exact i2⟩
  ·simp only [List.mem_cons, List.not_mem_nil, or_false] at hx
   rcases hx with rfl | rfl | rfl | rfl <;> exact ⟨_, rfl, by decide⟩
 have hX₃ : X1 C (n + 3) (.for (.v 202) (.list [.lit (.str 48), .lit (.str 53), .lit (.str 59), .lit (.str 76)]) sitesBody) ρ₁ σ₁ .next ρ₃ σ₃ := .for (.of ev_sitesL (.list hs)) hl₃
 have K : Kp [] σ σ₃ := (K₁.trans' K₂).trans' K₃
 have W₃ := W.keep K
 have V₃ := V.keep0 K
 obtain ⟨i1, i2⟩ := I₃
 obtain ⟨σ₄, t₄, K₄⟩ := sorted_ne (C := C) (n := n + 3) (P := (· ∈ S.T S.sites)) H (row_ftab W₃ (sites_tab S) (ev_fsites H W₃ (.var i1))) (fun σ' K => (row_btab (V₃.keep0 K) (sites_tab Z) (ev_bsites (V₃.keep0 K) i2)).congr fun v => (A.sites W.ok V.ok v).symm) (set_sites W.ok.site)
 have W₄ := W₃.keep K₄
 have V₄ := V₃.keep0 K₄
 obtain ⟨σ₅, t₅, K₅⟩ := sorted_ne (C := C) (n := n + 3) (P := (· ∈ S.T S.gone)) H (row_ftab W₄ (gone_tab S) (ev_fgone H W₄ (.var i1))) (fun σ' K => (row_btab (V₄.keep0 K) (gone_tab Z) (ev_bgone (V₄.keep0 K) i2)).congr fun v => (A.gone W.ok V.ok v).symm) (set_sites W.ok.gon)
 have W₅ := W₄.keep K₅
 have V₅ := V₄.keep0 K₅
 obtain ⟨σ₆, t₆, K₆⟩ := sorted_eq (C := C) (n := n + 3) (P := (· ∈ S.T S.leaks)) H (row_ftab W₅ (leaks_tab S) (ev_leaks H W₅ (ev_summary H W₅ (.var i1)))) (fun σ' K => (row_btab (V₅.keep0 K) (leaks_tab Z) (ev_bleaks (V₅.keep0 K) i2)).congr fun v => (A.leaks W.ok V.ok v).symm) (set_outs W.ok.leak)
 have W₆ := W₅.keep K₆
 have V₆ := V₅.keep0 K₆
 obtain ⟨σ₇, t₇, K₇⟩ := sorted_eq (C := C) (n := n + 3) (P := (· ∈ S.T S.kept)) H (row_ftab W₆ (kept_tab S) (ev_kept H W₆ (ev_summary H W₆ (.var i1)))) (fun σ' K => (row_btab (V₆.keep0 K) (kept_tab Z) (ev_bkept (V₆.keep0 K) i2)).congr fun v => (A.kept W.ok V.ok v).symm) (set_kept W.ok.kep)
 exact ⟨σ₇, .fn (fn_law_stands H) (.cons hX₁ (.cons hX₃ (.cons (.ite_f (.or (.orF t₄ (.orF t₅ .nilO))) .nil) (.out (.ret (.and2 t₆ (fun _ => t₇) (fun h => by cases h))) (by simp))))) (.inl rfl), (((K.trans' K₄).trans' K₅).trans' K₆).trans' K₇⟩
end
end Mine
namespace Mine
open PySem PySem.W PyProof.Rows PySem.Calls PySem.Spec PySem.SeqAt
section
variable {C : Cx} {n i j w d : Nat} {σ₀ σ σ' : MH} {ρ : List (Nat × MV)} {e : IE} {xs ys ws fs r : List MV}
theorem Op.neLen (hi : σ[i]? = some (.list xs)) (hj : σ[j]? = some (.list ys)) (hne : xs.length ≠ ys.length) : Op C n [.loc i, .loc j] σ (cmpF .NotEq) (.bool true) σ := by
 intro A ι s rvs r R V
 obtain ⟨x, y, rfl, h1, h2⟩ := vr2 V
 obtain ⟨l, items, rfl, _, hl, v1, _⟩ := R.isList h1 hi
 obtain ⟨l2, items2, rfl, _, hl2, v2, _⟩ := R.isList h2 hj
 have q1 := v1.length
 have q2 := v2.length
 exact RcNeAt.lists_lengths hl hl2 (by simp only [bne_iff_ne]; intro e; apply hne; simp only [Array.length_toList] at q1 q2; lia) (by have := r.units; lia) _ _ _ _ ⟨ι, R, by first | exact rfl | exact ⟨_, rfl⟩, .refl ..⟩
theorem notEmpty1 (he : Ev C n e ρ σ (.loc w) σ) (hw : σ[w]? = some (.list ws)) (hne : ws ≠ []) : Tst C n (.cmp .NotEq e (.list [])) ρ σ true (σ ++ [MO.list []]) :=
 Tst.cmp he (.list .nil) (Op.neLen ((Kp.new [] σ _).get hw) (get_new ..) (fun q => hne (List.length_eq_zero_iff.mp q)))
noncomputable abbrev owBody : List IS := [
  .setv 102 (.meth (.var 232) 166 []),
  .ite (.or [.not (.call (.glob 109) [.var 102, .glob 228]), .cmp .Eq (.var 102) (.tup [])]) [
   .cont] [],
  .setv 115 (.sub (.var 102) (.lit (.int 0))),
  .ite (.cmp .In (.var 115) (.glob 17)) [
   .setv 153 (.ite (.call (.glob 109) [.sub (.var 102) (.lit (.int 1)), .glob 228]) (.sub (.sub (.var 102) (.lit (.int 1))) (.lit (.int 0))) (.sub (.var 102) (.lit (.int 1)))),
   .ite (.cmp .NotIn (.var 153) (.var 91)) [
    .expr (.meth (.var 91) 49 [.var 153])] []] [
   .ite (.or [.cmp .Eq (.var 115) (.lit (.str 92)), .cmp .Eq (.var 115) (.lit (.str 86))]) [
    .expr (.meth (.var 232) 85 [.ite (.cmp .Eq (.var 115) (.lit (.str 92))) (.rev (.call (.glob 124) [.sub (.var 102) (.lit (.int 2))])) (.list [.sub (.var 102) (.lit (.int 2))])])] [
    .ite (.or [.cmp .Eq (.var 115) (.lit (.str 211)), .cmp .Eq (.var 115) (.lit (.str 50))]) [
     .expr (.meth (.var 232) 85 [.rev (.call (.glob 124) [.sub (.var 102) (.lit (.int 1))])])] []]]]
structure OS (σ₀ : MH) (d w : Nat) (ρ : List (Nat × MV)) (σ : MH) (fs ws : List MV) : Prop where
 keep : Kp [] σ₀ σ
 newd : σ₀.length ≤ d
 neww : σ₀.length ≤ w
 ne : d ≠ w
 fd : σ[d]? = some (.list fs)
 wt : σ[w]? = some (.list ws)
 vd : alook ρ 91 = some (.loc d)
 vw : alook ρ 232 = some (.loc w)
inductive OW : List MV → List MV → List MV → Prop where
 | stop {fs : List MV} : OW fs [] fs
 | atom {fs ws r : List MV} {y : MV} : (y = .none ∨ (∃ k, y = .int k) ∨ ∃ b, y = .bytes b) → ws.length < 50 → OW fs ws r → OW fs (ws ++ [y]) r
 | ref {ws r rest : List MV} {kd : Nat} {k : Int} : kd ∈ [168, 205, 142] → pv (.tup (.str kd :: .int k :: rest)) 8 = true → ws.length < 50 → OW [.int k] ws r → OW [] (ws ++ [.tup (.str kd :: .int k :: rest)]) r
 | face {fs ws r : List MV} {t x : MV} : pv (.tup [.str 86, t, x]) 8 = true → ws.length < 50 → OW fs (ws ++ [x]) r → OW fs (ws ++ [.tup [.str 86, t, x]]) r
 | row {fs ws r items : List MV} {kd : Nat} : kd ∈ [211, 50] → pv (.tup [.str kd, .tup items]) 8 = true → ws.length < 50 → items.length < 50 → OW fs (ws ++ items.reverse) r → OW fs (ws ++ [.tup [.str kd, .tup items]]) r
theorem ow_pop {y : MV} (I : OS σ₀ d w ρ σ fs (ws ++ [y])) :
  ∃ σ₁, Tst C n (.cmp .NotEq (.var 232) (.list [])) ρ σ true σ₁ ∧ ∃ σ₂, X1 C n (.setv 102 (.meth (.var 232) 166 [])) ρ σ₁ .next (aset ρ 102 y) σ₂ ∧ OS σ₀ d w (aset ρ 102 y) σ₂ fs ws := by
 have K : Kp [] σ (σ ++ [MO.list []]) := Kp.new ..
 have hw := K.get I.wt
 have hd := K.get I.fd
 refine ⟨_, notEmpty1 (.var I.vw) I.wt (by simp), _, .setv (Ev.methB (.var I.vw) (kind_list hw) bm_pop (ha := .nil) (hq := CallEv.pop hw)), ?_⟩
 exact ⟨(I.keep.trans' K).setNew I.neww, I.newd, I.neww, I.ne, by rw [List.getElem?_set_ne (Ne.symm I.ne)]; exact hd, List.getElem?_set_self (List.getElem?_eq_some_iff.mp hw).1, look_ne I.vd (by decide), look_ne I.vw (by decide)⟩
theorem OS.set {a : Nat} {v : MV} (I : OS σ₀ d w ρ σ fs ws) (h1 : a ≠ 91) (h2 : a ≠ 232) : OS σ₀ d w (aset ρ a v) σ fs ws :=
 ⟨I.keep, I.newd, I.neww, I.ne, I.fd, I.wt, by rw [alook_aset_ne _ _ (Ne.symm h1)]; exact I.vd, by rw [alook_aset_ne _ _ (Ne.symm h2)]; exact I.vw⟩
theorem ow_extend (I : OS σ₀ d w ρ σ fs ws) (he : Ev C n e ρ σ (.loc j) σ') (K : Kp [] σ σ') (hj : σ'[j]? = some (.list ys)) (h1 : ws.length ≤ 50) (h2 : ys.length ≤ 50) :
  ∃ σ'', X1 C n (.expr (.meth (.var 232) 85 [e])) ρ σ .next ρ σ'' ∧ OS σ₀ d w ρ σ'' fs (ws ++ ys) := by
 have hw := K.get I.wt
 have hd := K.get I.fd
 refine ⟨_, .expr (Ev.methB (.var I.vw) (kind_list I.wt) bm_extend (ha := .cons he .nil) (hq := CallEv.extend hw hj (by rw [sizeLine_eq]; lia))), ?_⟩
 exact ⟨(I.keep.trans' K).setNew I.neww, I.newd, I.neww, I.ne, by rw [List.getElem?_set_ne (Ne.symm I.ne)]; exact hd, List.getElem?_set_self (List.getElem?_eq_some_iff.mp hw).1, I.vd, I.vw⟩
theorem isTup_var (H : L1 C) {v : MV} (hv : Ev C n e ρ σ (.tup xs) σ) : Tst C n (.call (.glob 109) [e, .glob 228]) ρ σ true σ :=
 .val (.call (gl_isinstance H) (.inl fun _ q => by cases q) (.cons hv (.cons (.glob (gl_tuple H)) .nil)) CallEv.isTup)
end
end Mine
namespace Mine
open PySem PySem.W PyProof.Rows PySem.Calls PySem.Spec PySem.SeqAt
section
variable {C : Cx} {n i j w d : Nat} {σ₀ σ σ' : MH} {ρ : List (Nat × MV)} {e : IE} {xs ys ws fs r : List MV}
noncomputable def Turn (C : Cx) (n : Nat) (σ₀ : MH) (d w : Nat) (ρ : List (Nat × MV)) (σ : MH) (fs ws : List MV) : Prop :=
 ∃ σ₁ fl ρ' σ', Tst C n (.cmp .NotEq (.var 232) (.list [])) ρ σ true σ₁ ∧ Xs C n owBody ρ σ₁ fl ρ' σ' ∧ (fl = .next ∨ fl = .cont) ∧ OS σ₀ d w ρ' σ' fs ws
theorem ow_atom (H : L1 C) {y : MV} (hy : y = .none ∨ (∃ k, y = .int k) ∨ ∃ b, y = .bytes b) (I : OS σ₀ d w ρ σ fs (ws ++ [y])) : Turn C n σ₀ d w ρ σ fs ws := by
 obtain ⟨σ₁, ht, σ₂, hX, I₂⟩ := ow_pop (C := C) (n := n) I
 have hb : Tst C n (.call (.glob 109) [.var 102, .glob 228]) (aset ρ 102 y) σ₂ false σ₂ := by
  refine .val (.call (gl_isinstance H) (.inl fun _ q => by cases q) (.cons (.var (alook_aset_same ..)) (.cons (.glob (gl_tuple H)) .nil)) ?_)
  rcases hy with rfl | ⟨k, rfl⟩ | ⟨b, rfl⟩
  ·exact CallEv.noneTup
  ·exact CallEv.intTup
  ·exact CallEv.bytesTup
 exact ⟨σ₁, .cont, _, σ₂, ht, .cons hX (.out (.ite_t (.or (.orT (.not hb))) (.out .cont (by simp))) (by simp)), .inr rfl, I₂⟩
theorem ow_tup (H : L1 C) {kd : Nat} {rest : List MV} (hp : pv (.tup (.str kd :: rest)) 8 = true) (I : OS σ₀ d w ρ σ fs (ws ++ [.tup (.str kd :: rest)])) :
  E3 fun σ₁ ρ₂ σ₂ => N5 (Tst C n (.cmp .NotEq (.var 232) (.list [])) ρ σ true σ₁) (OS σ₀ d w ρ₂ σ₂ fs ws) (alook ρ₂ 102 = some (.tup (.str kd :: rest))) (alook ρ₂ 115 = some (.str kd)) (∀ {ρ' σ'} {last : IS}, X1 C n last ρ₂ σ₂ .next ρ' σ' → Xs C n (owBody.take 3 ++ [last]) ρ σ₁ .next ρ' σ') := by
 obtain ⟨σ₁, ht, σ₂, hX, I₂⟩ := ow_pop (C := C) (n := n) I
 have h102 : alook (aset ρ 102 (.tup (.str kd :: rest))) 102 = some (.tup (.str kd :: rest)) := alook_aset_same ..
 have hb := isTup_var (n := n) (σ := σ₂) H (v := .none) (.var h102)
 have he : Tst C n (.cmp .Eq (.var 102) (.tup [])) (aset ρ 102 (.tup (.str kd :: rest))) σ₂ false σ₂ := .cmp (.var h102) (.tup .nil) (Op.eq hp (by decide))
 have h3 : X1 C n (.setv 115 (.sub (.var 102) (.lit (.int 0)))) (aset ρ 102 (.tup (.str kd :: rest))) σ₂ .next _ σ₂ := .setv (ev_item0 (.var h102))
 exact ⟨σ₁, _, σ₂, ht, I₂.set (a := 115) (v := .str kd) (by decide) (by decide), look_ne h102 (by decide), alook_aset_same .., fun hl => .cons hX (.cons (.ite_f (.or (.orF (.not hb) (.orF he .nilO))) .nil) (.cons h3 (.cons hl .nil)))⟩
theorem kd_eq {kd i : Nat} (h : alook ρ 115 = some (.str kd)) (hk : kd < tabN) (hi : i < tabN) : Tst C n (.cmp .Eq (.var 115) (.lit (.str i))) ρ σ ((MV.str kd).beq (.str i)) σ :=
 .cmp (.var h) .lit (Op.eq (by simp [pv, Nat.blt]; lia) (by simp [pv, Nat.blt]; lia))
theorem kd_ref (H : L1 C) {kd : Nat} (h : alook ρ 115 = some (.str kd)) (hk : kd < tabN) : Tst C n (.cmp .In (.var 115) (.glob 17)) ρ σ (([168, 205, 142, 65, 110].map MV.str).any fun y => y.beq (.str kd)) σ :=
 .cmp (.var h) (.glob (gl_REFERRING H)) (Op.inT (by simp [pv, Nat.blt]; lia) (by decide))
theorem ow_ref (H : L1 C) {kd : Nat} {k : Int} {rest : List MV} (hk : kd ∈ [168, 205, 142]) (hp : pv (.tup (.str kd :: .int k :: rest)) 8 = true) (I : OS σ₀ d w ρ σ [] (ws ++ [.tup (.str kd :: .int k :: rest)])) : Turn C n σ₀ d w ρ σ [.int k] ws := by
 obtain ⟨σ₁, ρ₂, σ₂, ht, I₂, h102, h115, hX⟩ := ow_tup (n := n) H hp I
 have h1 : Ev C n (.sub (.var 102) (.lit (.int 1))) ρ₂ σ₂ (.int k) σ₂ := ev_item1 (.var h102)
 have hr : Tst C n (.cmp .In (.var 115) (.glob 17)) ρ₂ σ₂ true σ₂ := by
  simp only [List.mem_cons, List.not_mem_nil, or_false] at hk
  rcases hk with rfl | rfl | rfl <;> exact kd_ref H h115 (by decide)
 have hb : Tst C n (.call (.glob 109) [.sub (.var 102) (.lit (.int 1)), .glob 228]) ρ₂ σ₂ false σ₂ := .val (.call (gl_isinstance H) (.inl fun _ q => by cases q) (.cons h1 (.cons (.glob (gl_tuple H)) .nil)) CallEv.intTup)
 have I₃ := I₂.set (a := 153) (v := .int k) (by decide) (by decide)
 have h153 : alook (aset ρ₂ 153 (.int k)) 153 = some (.int k) := alook_aset_same ..
 have hn : Tst C n (.cmp .NotIn (.var 153) (.var 91)) (aset ρ₂ 153 (.int k)) σ₂ true σ₂ := .cmp (.var h153) (.var I₃.vd) (Op.notInL I₃.fd rfl (by simp [pvs]))
 have happ : X1 C n (.expr (.meth (.var 91) 49 [.var 153])) (aset ρ₂ 153 (.int k)) σ₂ .next (aset ρ₂ 153 (.int k)) (σ₂.set d (.list ([] ++ [.int k]))) :=
  .expr (Ev.methB (.var I₃.vd) (kind_list I₃.fd) bm_append (ha := .cons (.var h153) .nil) (hq := CallEv.append I₃.fd (by rw [sizeLine_eq]; simp)))
 refine ⟨σ₁, .next, _, _, ht, hX (.ite_t hr (.cons (.setv (.iteF hb h1)) (.cons (.ite_t hn (.cons happ .nil)) .nil))), .inl rfl, ?_⟩
 exact ⟨I₃.keep.setNew I₃.newd, I₃.newd, I₃.neww, I₃.ne, List.getElem?_set_self (List.getElem?_eq_some_iff.mp I₃.fd).1, by rw [List.getElem?_set_ne I₃.ne]; exact I₃.wt, I₃.vd, I₃.vw⟩
theorem ow_face (H : L1 C) {t x : MV} (hp : pv (.tup [.str 86, t, x]) 8 = true) (hl : ws.length < 50) (I : OS σ₀ d w ρ σ fs (ws ++ [.tup [.str 86, t, x]])) : Turn C n σ₀ d w ρ σ fs (ws ++ [x]) := by
 obtain ⟨σ₁, ρ₂, σ₂, ht, I₂, h102, h115, hX⟩ := ow_tup (n := n) H hp I
 have hr : Tst C n (.cmp .In (.var 115) (.glob 17)) ρ₂ σ₂ false σ₂ := kd_ref H h115 (by decide)
 have h92 : Tst C n (.cmp .Eq (.var 115) (.lit (.str 92))) ρ₂ σ₂ false σ₂ := kd_eq h115 (by decide) (by decide)
 have h86 : Tst C n (.cmp .Eq (.var 115) (.lit (.str 86))) ρ₂ σ₂ true σ₂ := kd_eq h115 (by decide) (by decide)
 have h2 : Ev C n (.sub (.var 102) (.lit (.int 2))) ρ₂ σ₂ x σ₂ := .sub (.var h102) .lit (by simp [kindOf]) (Op.itemT (q := 2) (by simp [seqIndex?]) rfl)
 obtain ⟨σ₃, hE, I₃⟩ := ow_extend (C := C) (n := n) (e := .ite (.cmp .Eq (.var 115) (.lit (.str 92))) (.rev (.call (.glob 124) [.sub (.var 102) (.lit (.int 2))])) (.list [.sub (.var 102) (.lit (.int 2))])) I₂ (.iteF h92 (.list (.cons h2 .nil))) (Kp.new ..) (get_new ..) (by lia) (by simp)
 exact ⟨σ₁, .next, _, σ₃, ht, hX (.ite_f hr (.cons (.ite_t (.or (.orF h92 (.orT h86))) (.cons hE .nil)) .nil)), .inl rfl, I₃⟩
theorem ow_row (H : L1 C) {kd : Nat} {items : List MV} (hk : kd ∈ [211, 50]) (hp : pv (.tup [.str kd, .tup items]) 8 = true) (hl : ws.length < 50) (hi : items.length < 50) (I : OS σ₀ d w ρ σ fs (ws ++ [.tup [.str kd, .tup items]])) : Turn C n σ₀ d w ρ σ fs (ws ++ items.reverse) := by
 obtain ⟨σ₁, ρ₂, σ₂, ht, I₂, h102, h115, hX⟩ := ow_tup (n := n) H hp I
 have hr : Tst C n (.cmp .In (.var 115) (.glob 17)) ρ₂ σ₂ false σ₂ := by
  simp only [List.mem_cons, List.not_mem_nil, or_false] at hk
  rcases hk with rfl | rfl <;> exact kd_ref H h115 (by decide)
 have h92 : Tst C n (.cmp .Eq (.var 115) (.lit (.str 92))) ρ₂ σ₂ false σ₂ := by
  simp only [List.mem_cons, List.not_mem_nil, or_false] at hk
  rcases hk with rfl | rfl <;> exact kd_eq h115 (by decide) (by decide)
 have h86 : Tst C n (.cmp .Eq (.var 115) (.lit (.str 86))) ρ₂ σ₂ false σ₂ := by
  simp only [List.mem_cons, List.not_mem_nil, or_false] at hk
  rcases hk with rfl | rfl <;> exact kd_eq h115 (by decide) (by decide)
 have hrow : Tst C n (.or [.cmp .Eq (.var 115) (.lit (.str 211)), .cmp .Eq (.var 115) (.lit (.str 50))]) ρ₂ σ₂ true σ₂ := by
  simp only [List.mem_cons, List.not_mem_nil, or_false] at hk
  rcases hk with rfl | rfl
  ·have a : Tst C n (.cmp .Eq (.var 115) (.lit (.str 211))) ρ₂ σ₂ true σ₂ := kd_eq h115 (by decide) (by decide)
   exact .or (.orT a)
  ·have a : Tst C n (.cmp .Eq (.var 115) (.lit (.str 211))) ρ₂ σ₂ false σ₂ := kd_eq h115 (by decide) (by decide)
   have b : Tst C n (.cmp .Eq (.var 115) (.lit (.str 50))) ρ₂ σ₂ true σ₂ := kd_eq h115 (by decide) (by decide)
   exact .or (.orF a (.orT b))
 have h1 : Ev C n (.sub (.var 102) (.lit (.int 1))) ρ₂ σ₂ (.tup items) σ₂ := ev_item1 (.var h102)
 have hli : Ev C n (.call (.glob 124) [.sub (.var 102) (.lit (.int 1))]) ρ₂ σ₂ (.loc σ₂.length) (σ₂ ++ [MO.list items]) := .call (gl_list H) (.inl fun _ q => by cases q) (.cons h1 .nil) (CallEv.listT (by rw [sizeLine_eq]; lia))
 obtain ⟨σ₃, hE, I₃⟩ := ow_extend (C := C) (n := n) (ys := items.reverse) I₂ (.rev hli (get_new ..)) ((Kp.new ..).trans' (Kp.new ..)) (get_new ..) (by lia) (by simp; lia)
 exact ⟨σ₁, .next, _, σ₃, ht, hX (.ite_f hr (.cons (.ite_f (.or (.orF h92 (.orF h86 .nilO))) (.cons (.ite_t hrow (.cons hE .nil)) .nil)) .nil)), .inl rfl, I₃⟩
theorem ow_run (H : L1 C) (h : OW fs ws r) : ∀ (ρ : List (Nat × MV)) (σ : MH), OS σ₀ d w ρ σ fs ws → E3 fun j ρ' σ' => WLoop C n (.cmp .NotEq (.var 232) (.list [])) owBody j ρ σ .next ρ' σ' ∧ OS σ₀ d w ρ' σ' r [] := by
 have go : ∀ {fs ws' ws'' r : List MV} {ρ : List (Nat × MV)} {σ : MH}, Turn C n σ₀ d w ρ σ fs ws'' → (∀ (ρ : List (Nat × MV)) (σ : MH), OS σ₀ d w ρ σ fs ws'' → E3 fun j ρ' σ' => WLoop C n (.cmp .NotEq (.var 232) (.list [])) owBody j ρ σ .next ρ' σ' ∧ OS σ₀ d w ρ' σ' r []) →
   E3 fun j ρ' σ' => WLoop C n (.cmp .NotEq (.var 232) (.list [])) owBody j ρ σ .next ρ' σ' ∧ OS σ₀ d w ρ' σ' r [] := fun ⟨σ₁, fl, ρ₁, σ₂, a, b, c, I⟩ ih => by
  obtain ⟨j, ρ', σ', hW, I'⟩ := ih _ _ I
  exact ⟨j + 1, ρ', σ', .turn a b c hW, I'⟩
 induction h with
 | stop =>
  intro ρ σ I
  have ht := notEmpty (C := C) (n := n) (.var I.vw) I.wt (by simp [pvs])
  have K : Kp [] σ (σ ++ [MO.list []]) := Kp.new ..
  exact ⟨0, ρ, _, .stop ht, ⟨I.keep.trans' K, I.newd, I.neww, I.ne, K.get I.fd, K.get I.wt, I.vd, I.vw⟩⟩
 | atom hy _ _ ih => exact fun ρ σ I => go (ws' := []) (ow_atom H hy I) ih
 | ref hk hp _ _ ih => exact fun ρ σ I => go (ws' := []) (ow_ref H hk hp I) ih
 | face hp hl _ ih => exact fun ρ σ I => go (ws' := []) (ow_face H hp hl I) ih
 | row hk hp hl hi _ ih => exact fun ρ σ I => go (ws' := []) (ow_row H hk hp hl hi I) ih
theorem objects_spec (H : L1 C) {v : MV} (h : OW [] [v] r) : E2 fun σ' d => N4 (CallEv C (n + 1) (.ref 29) [v] σ (.loc d) σ') (Kp [] σ σ') (σ.length ≤ d) (σ'[d]? = some (.list r)) := by
 let ρ₀ : List (Nat × MV) := asets [(230, v)] [91, 232] [.loc σ.length, .loc (σ ++ [MO.list []]).length]
 have I₀ : OS σ σ.length (σ ++ [MO.list []]).length ρ₀ ((σ ++ [MO.list []]) ++ [MO.list [v]]) [] [v] := ⟨(Kp.new ..).trans' (Kp.new ..), Nat.le_refl _, by simp, by simp, (Kp.new [] _ _).get (get_new ..), get_new .., rfl, rfl⟩
 obtain ⟨j, ρ', σ', hW, I⟩ := ow_run (n := n) H h _ _ I₀
 exact ⟨σ', σ.length, .fn (fn_objects_within H) (.cons (.sett (.tup (.cons (.list .nil) (.cons (.list (.cons (.var rfl) .nil)) .nil)))) (.cons (.while hW) (.out (.ret (.var I.vd)) (by simp)))) (.inl rfl), I.keep, Nat.le_refl _, I.fd⟩
end
end Mine
namespace Mine
open PySem PySem.W PyProof.Rows PySem.Calls PySem.Spec PySem.SeqAt
noncomputable def dueOf (r : List MV) : List MV := if r = [] then [] else [bv]
section
variable {C : Cx} {n i j w d : Nat} {σ₀ σ σ' : MH} {ρ : List (Nat × MV)} {e : IE} {xs ys ws fs r : List MV} {L : FL} {S : TS}
theorem due_pvs (r : List MV) : pvs (dueOf r) 8 = true := by unfold dueOf; split <;> decide
theorem tokens_const (H : L1 C) {T v : MV} (h : OW [] [v] r) : E2 fun σ' k => N4 (CallEv C (n + 2) (.ref 79) [.inst 208 w, .tup [.str 72, T, v]] σ (.loc k) σ') (Kp [] σ σ') (σ.length ≤ k) (σ'[k]? = some (.list (dueOf r))) := by
 let ρ₀ : List (Nat × MV) := [(199, .inst 208 w), (158, .tup [.str 72, T, v])]
 have hv : Ev C (n + 1) (.var 158) ρ₀ σ (.tup [.str 72, T, v]) σ := .var rfl
 have h1 : Tst C (n + 1) (.cmp .Is (.var 158) (.lit .none)) ρ₀ σ false σ := .cmp (.var rfl) .lit (Op.isNone (by simp))
 have h2 : Tst C (n + 1) (.cmp .Eq (.sub (.var 158) (.lit (.int 0))) (.lit (.str 176))) ρ₀ σ false σ := by
  have := Tst.cmp (C := C) (n := n + 1) (ρ := ρ₀) (σ := σ) (ev_item0 (x := .str 72) (xs := [T, v]) hv) (.lit (v := .str 176)) (Op.eq (by decide) (by decide))
  exact this
 obtain ⟨σ₁, d, hc, K, hd, hr⟩ := objects_spec (C := C) (n := n) (σ := σ) H h
 have hcall : Ev C (n + 1) (.call (.glob 154) [.sub (.var 158) (.lit (.int 2))]) ρ₀ σ (.loc d) σ₁ := .call (gl_objects_within H) (ke_objects_within H) (.cons (.sub hv .lit (by simp [kindOf]) (Op.itemT (q := 2) (by simp [seqIndex?]) rfl)) .nil) hc
 have K₁ : Kp [] σ₁ (σ₁ ++ [MO.list []]) := Kp.new ..
 have ht : Tst C (n + 1) (.cmp .NotEq (.call (.glob 154) [.sub (.var 158) (.lit (.int 2))]) (.list [])) ρ₀ σ (!r.isEmpty) (σ₁ ++ [MO.list []]) := by
  have hr' := K₁.get hr
  cases r with
  | nil => exact Tst.cmp hcall (.list .nil) (Op.neL hr' (get_new ..) (by decide) (by decide))
  | cons x xs => exact Tst.cmp hcall (.list .nil) (Op.neLen hr' (get_new ..) (by simp))
 have he : Ev C (n + 1) (.ite (.cmp .NotEq (.call (.glob 154) [.sub (.var 158) (.lit (.int 2))]) (.list [])) (.list [.glob 14]) (.list [])) ρ₀ σ (.loc (σ₁ ++ [MO.list []]).length) ((σ₁ ++ [MO.list []]) ++ [MO.list (dueOf r)]) := by
  cases r with
  | nil =>
   have e : dueOf [] = [] := if_pos rfl
   rw [e]; exact .iteF ht (.list .nil)
  | cons x xs =>
   have e : dueOf (x :: xs) = [bv] := if_neg (by simp)
   rw [e]; exact .iteT ht (.list (.cons (.glob (gl_BEYOND H)) .nil))
 exact ⟨_, _, .fn (fn_EscapeFlow_tokens_of H) (.cons (.ite_f h1 .nil) (.cons (.ite_f h2 .nil) (.out (.ret he) (by simp)))) (.inl rfl), (K.trans' K₁).trans' (Kp.new ..), by have := K.len; simp; lia, get_new ..⟩
theorem tokens_all2 (H : L1 C) (W : FlowAt σ L S) {T v v' : MV} {r r' : List MV} (h : OW [] [v] r) (h' : OW [] [v'] r') : E2 fun σ' k => N4 (CallEv C (n + 3) (.ref 86) [.inst 208 L.f, .tup [.tup [.str 72, T, v], .tup [.str 72, T, v']]] σ (.loc k) σ') (Kp [] σ σ') (σ.length ≤ k) (σ'[k]? = some (.list (dueOf r ++ dueOf r'))) := by
 let ρ₀ : List (Nat × MV) := [(199, .inst 208 L.f), (159, .tup [.tup [.str 72, T, v], .tup [.str 72, T, v']])]
 have hlen : ∀ r : List MV, (dueOf r).length ≤ 1 := fun r => by unfold dueOf; split <;> simp
 have turn : ∀ {ρ : List (Nat × MV)} {σ : MH} {x : MV} {r fs : List MV} {d : Nat}, FlowAt σ L S → OW [] [x] r → alook ρ 199 = some (.inst 208 L.f) → alook ρ 91 = some (.loc d) → alook ρ 158 = some (.tup [.str 72, T, x]) → σ[d]? = some (.list fs) → fs.length ≤ 5 →
   ∃ σ', N3 (Xs C (n + 2) [.expr (.meth (.var 91) 85 [.meth (.var 199) 223 [.var 158]])] ρ σ .next ρ (σ'.set d (.list (fs ++ dueOf r)))) (Kp [] σ σ') (σ'[d]? = some (.list fs)) := fun {ρ σ x r fs d} W h a b c hd hl => by
  obtain ⟨σ₁, k, hc, K, hk, hr⟩ := tokens_const (C := C) (n := n) (σ := σ) (w := L.f) (T := T) H h
  have hd' := K.get hd
  exact ⟨σ₁, .cons (.expr (Ev.methB (.var b) (kind_list hd) bm_extend (ha := .cons (ev_meth H W a (by decide) (me_EscapeFlow_tokens_of H) (.cons (.var c) .nil) hc) .nil) (hq := CallEv.extend hd' hr (by rw [sizeLine_eq]; have := hlen r; lia)))) .nil, K, hd'⟩
 have K₀ : Kp [] σ (σ ++ [MO.list []]) := Kp.new ..
 obtain ⟨σ₁, hX₁, K₁, hd₁⟩ := turn (ρ := aset (aset ρ₀ 91 (.loc σ.length)) 158 (.tup [.str 72, T, v])) (σ := σ ++ [MO.list []]) (fs := []) (d := σ.length) (W.keep K₀) h rfl rfl rfl (get_new ..) (by simp)
 have K₀₁ : Kp [] σ (σ₁.set σ.length (.list ([] ++ dueOf r))) := (K₀.trans' K₁).setNew (Nat.le_refl _)
 have hlt₁ := (List.getElem?_eq_some_iff.mp hd₁).1
 obtain ⟨σ₂, hX₂, K₂, hd₂⟩ := turn (ρ := aset (aset (aset ρ₀ 91 (.loc σ.length)) 158 (.tup [.str 72, T, v])) 158 (.tup [.str 72, T, v'])) (σ := σ₁.set σ.length (.list ([] ++ dueOf r))) (fs := [] ++ dueOf r) (d := σ.length) (W.keep K₀₁) h' rfl rfl rfl (List.getElem?_set_self hlt₁) (by have := hlen r; simp; lia)
 have hlt₂ := (List.getElem?_eq_some_iff.mp hd₂).1
 refine ⟨_, σ.length, .fn (fn_EscapeFlow_tokens_of_all H) (.cons (.setv (.list .nil)) (.cons (.for (.of (.var rfl) .tup) (.next trivial rfl hX₁ (.inl rfl) (.next trivial rfl hX₂ (.inl rfl) (.nil trivial)))) (.out (.ret (.var rfl)) (by simp)))) (.inl rfl), (K₀₁.trans' K₂).setNew (Nat.le_refl _), Nat.le_refl _, ?_⟩
 rw [List.getElem?_set_self hlt₂]; simp
end
end Mine
namespace Mine
open PySem PySem.W PyProof.Rows PySem.Calls PySem.Spec PySem.SeqAt
section
variable {C : Cx} {n f m lt q : Nat} {σ₀ σ σ' : MH} {ρ : List (Nat × MV)} {e : IE} {ks : List MV} {k x : Int} {L : FL} {S : TS}
structure TSt (σ : MH) (f m lt q : Nat) (k : Int) (ks : List MV) : Prop where
 flow : ∃ as, σ[f]? = some (.ns as) ∧ alook as 152 = none
 sum : ∃ as, σ[m]? = some (.ns as) ∧ alook as 225 = some (.loc lt) ∧ alook as 226 = none
 told : ∃ ep, σ[lt]? = some (.dict ep [(.int k, .loc q)])
 tab : ∃ ep, σ[q]? = some (.dict ep (tds ks))
theorem TSt.keep (I : TSt σ f m lt q k ks) (K : Kp [] σ σ') : TSt σ' f m lt q k ks := by
 obtain ⟨⟨as, a1, a2⟩, ⟨bs, b1, b2⟩, ⟨ep, c1⟩, ⟨eq, d1⟩⟩ := I
 exact ⟨⟨as, K.get a1, a2⟩, ⟨bs, K.get b1, b2⟩, ⟨ep, K.get c1⟩, ⟨eq, K.get d1⟩⟩
theorem ev_told (H : L1 C) {as : List (Nat × MV)} {r : MV} {j : Nat} (hj : alook ρ j = some (.inst 54 m)) (hs : σ[m]? = some (.ns as)) (h1 : alook as 225 = some (.loc lt)) (h2 : alook as 226 = none) {ep : Nat} {es : List (MV × MV)} (ht : σ[lt]? = some (.dict ep es)) (he : Ev C (n + 2) e ρ σ (.int k) σ)
  (hc : CallEv C (n + 1) (.builtin "dict.setdefault") [.loc lt, .int k, .loc σ.length] (σ ++ [.dict 0 []]) r σ') : Ev C (n + 2) (.meth (.var j) 226 [e]) ρ σ r σ' := by
 have hb : CallEv C (n + 2) (.ref 51) [.inst 54 m, .int k] σ r σ' := by
  refine .fn (fn_Summary_told_by H) (.out (.ret (Ev.methB (.attr (.var rfl) hs h1 (cl_Summary H) (at_Summary_told H)) (kind_dict ht) bm_setdefault (ha := .cons (.var rfl) (.cons .dict0 .nil)) (hq := hc))) (by simp)) (.inl rfl)
 exact Ev.meth (.var hj) hs h2 (cl_Summary H) (me_Summary_told_by H) (.cons he .nil) hb
theorem told_here (H : L1 C) {j : Nat} (I : TSt σ f m lt q k ks) (hj : alook ρ j = some (.inst 54 m)) (he : Ev C (n + 2) e ρ σ (.int k) σ) : Ev C (n + 2) (.meth (.var j) 226 [e]) ρ σ (.loc q) (σ ++ [MO.dict 0 []]) := by
 obtain ⟨as, a1, a2, a3⟩ := I.sum
 obtain ⟨ep, c1⟩ := I.told
 have hd : (σ ++ [MO.dict 0 []])[lt]? = some (.dict ep [(.int k, .loc q)]) := (Kp.new [] σ _).get c1
 have hc := CallEv.setdefault (C := C) (n := n) (w := .loc σ.length) (k := .int k) hd (.inl ⟨⟨_, rfl⟩, fun e he => by simp at he; subst he; exact ⟨_, rfl⟩⟩) (by rw [sizeLine_eq]; simp)
 have hg : dget [(MV.int k, MV.loc q)] (.int k) = some (.loc q) := by unfold dget; rw [List.find?_cons, MV.beq_refl]; rfl
 rw [hg] at hc
 exact ev_told H hj a1 a2 a3 c1 he hc
theorem told_new (H : L1 C) {j : Nat} {as : List (Nat × MV)} {ep : Nat} {es : List (MV × MV)} (hj : alook ρ j = some (.inst 54 m)) (hs : σ[m]? = some (.ns as)) (h1 : alook as 225 = some (.loc lt)) (h2 : alook as 226 = none) (ht : σ[lt]? = some (.dict ep es)) (hi : ∀ e ∈ es, ∃ i, e.1 = .int i ∧ i ≠ k) (hz : es.length < 100) (he : Ev C (n + 2) e ρ σ (.int k) σ) :
  Ev C (n + 2) (.meth (.var j) 226 [e]) ρ σ (.loc σ.length) ((σ ++ [MO.dict 0 []]).set lt (.dict (ep + 1) (es ++ [(.int k, .loc σ.length)]))) := by
 have hd : (σ ++ [MO.dict 0 []])[lt]? = some (.dict ep es) := (Kp.new [] σ _).get ht
 have hc := CallEv.setdefault (C := C) (n := n) (w := .loc σ.length) (k := .int k) hd (.inl ⟨⟨_, rfl⟩, fun e he => by obtain ⟨i, e1, _⟩ := hi e he; rw [e1]; exact ⟨_, rfl⟩⟩) (by rw [sizeLine_eq]; lia)
 have hg : dget es (.int k) = none := by
  unfold dget
  rw [Option.map_eq_none_iff, List.find?_eq_none]
  intro e he
  obtain ⟨i, e1, e2⟩ := hi e he
  rw [e1, MV.beq_false.mpr fun q => e2 (MV.int.inj q)]; exact Bool.false_ne_true
 rw [hg] at hc
 exact ev_told H hj hs h1 h2 ht he hc
theorem note_after (H : L1 C) {eT : IE} {σ₁ : MH} (ht : Ev C (n + 2) eT ρ σ (.loc q) σ₁) (I₁ : TSt σ₁ f m lt q k ks) (hf : ∃ as, σ[f]? = some (.ns as) ∧ alook as 152 = none) (h88 : alook ρ 88 = some (.inst 208 f)) (hks : ∀ v ∈ ks, ∃ i, v = .int i) (hl : ks.length < 100) (he : ∀ σ, Ev C (n + 2) e ρ σ (.int x) σ) :
  ∃ σ', N3 (X1 C (n + 2) (.expr (.meth (.var 88) 152 [eT, e])) ρ σ .next ρ σ') (TSt σ' f m lt q k (addM ks (.int x))) (Kp [f, q] σ₁ σ') := by
 obtain ⟨⟨as, a1, a2⟩, ⟨bs, b1, b2, b3⟩, ⟨ep, c1⟩, ⟨eq, d1⟩⟩ := I₁
 obtain ⟨as₀, a1₀, a2₀⟩ := hf
 obtain ⟨σ', as', ep', hc, U, ha⟩ := note_spec (n := n) (k := .int x) H a1 d1 (.inl ⟨⟨_, rfl⟩, fun v hv => by obtain ⟨i, rfl⟩ := hks v hv; exact ⟨_, rfl⟩⟩) (by lia)
 have hfq : f ≠ q := fun e => by rw [e, d1] at a1; cases a1
 have old : ∀ {i : Nat} {o : MO}, σ₁[i]? = some o → i ≠ f → i ≠ q → σ'[i]? = some o := fun {i o} hi n1 n2 => U.old hi (chg_none fun p hp e => by
  simp at hp; rcases hp with rfl | rfl
  ·exact n1 e.symm
  ·exact n2 e.symm)
 by_cases hmf : m = f
 ·subst hmf
  have := U.get _ _ a1
  rw [a1] at b1; cases b1
  refine ⟨σ', .expr (Ev.meth (.var h88) a1₀ a2₀ (cl_EscapeFlow H) (me_EscapeFlow_note H) (.cons ht (.cons (he _) .nil)) hc), ⟨⟨as', by simpa [chg] using this, by rw [ha 152 (by decide)]; exact a2⟩, ⟨as', by simpa [chg] using this, by rw [ha 225 (by decide)]; exact b2, by rw [ha 226 (by decide)]; exact b3⟩, ⟨ep, old c1 (fun e => by rw [e, a1] at c1; cases c1) (fun e => ?_)⟩, ⟨ep', ?_⟩⟩, Kp.of U (by simp)⟩
  ·rw [e, d1] at c1; cases ks with
   | nil => simp [tds] at c1
   | cons v vs => simp only [tds, List.map_cons, Option.some.injEq, MO.dict.injEq, List.cons.injEq, Prod.mk.injEq] at c1; exact absurd c1.2.1.2 (by simp)
  ·have := U.get _ _ d1
   simpa [chg, hfq] using this
 ·refine ⟨σ', .expr (Ev.meth (.var h88) a1₀ a2₀ (cl_EscapeFlow H) (me_EscapeFlow_note H) (.cons ht (.cons (he _) .nil)) hc), ⟨⟨as', ?_, by rw [ha 152 (by decide)]; exact a2⟩, ⟨bs, old b1 hmf (fun e => by rw [e, d1] at b1; cases b1), b2, b3⟩, ⟨ep, old c1 (fun e => by rw [e, a1] at c1; cases c1) (fun e => ?_)⟩, ⟨ep', ?_⟩⟩, Kp.of U (by simp)⟩
  ·have := U.get _ _ a1
   simpa [chg] using this
  ·rw [e, d1] at c1; cases ks with
   | nil => simp [tds] at c1
   | cons v vs => simp only [tds, List.map_cons, Option.some.injEq, MO.dict.injEq, List.cons.injEq, Prod.mk.injEq] at c1; exact absurd c1.2.1.2 (by simp)
  ·have := U.get _ _ d1
   simpa [chg, hfq] using this
theorem told_note (H : L1 C) (I : TSt σ f m lt q k ks) (h88 : alook ρ 88 = some (.inst 208 f)) (h214 : alook ρ 214 = some (.inst 54 m)) (h153 : alook ρ 153 = some (.int k)) (hks : ∀ v ∈ ks, ∃ i, v = .int i) (hl : ks.length < 100) (he : ∀ σ, Ev C (n + 2) e ρ σ (.int x) σ) :
  ∃ σ', N3 (X1 C (n + 2) (.expr (.meth (.var 88) 152 [.meth (.var 214) 226 [.var 153], e])) ρ σ .next ρ σ') (TSt σ' f m lt q k (addM ks (.int x))) (Kp [f, q] σ σ') := by
 have K : Kp [] σ (σ ++ [MO.dict 0 []]) := Kp.new ..
 obtain ⟨σ', a, b, c⟩ := note_after (x := x) H (told_here (n := n) (e := .var 153) H I h214 (.var h153)) (I.keep K) I.flow h88 hks hl he
 exact ⟨σ', a, b, (K.up).trans' c⟩
end
end Mine
namespace Mine
open PySem PySem.W PyProof.Rows PySem.Calls PySem.Spec PySem.SeqAt
section
variable {C : Cx} {n f m lt q : Nat} {σ₀ σ σ' : MH} {ρ : List (Nat × MV)} {e : IE} {ks : List MV} {k x : Int} {L : FL} {S : TS}
noncomputable abbrev tailBody : List IS := [
 .setv 214 (.call (.glob 18) []),
 .expr (.meth (.var 88) 152 [.meth (.var 214) 226 [.var 153], .neg (.lit (.int 1))]),
 .expr (.meth (.var 88) 152 [.meth (.var 214) 226 [.var 153], .lit (.int 1)]),
 .ret (.and [.cmp .Eq (.call (.glob 207) [.meth (.var 214) 226 [.var 153]]) (.list [.neg (.lit (.int 1)), .lit (.int 1)]), .cmp .Eq (.meth (.var 214) 226 [.bin .Add (.var 153) (.lit (.int 1))]) (.dict [] [])])]
theorem sort_ones : sortM [.int (-1), .int 1] = [.int (-1), .int 1] :=
 (sortM_uniq ⟨by simp, .inl fun x hx => by simp at hx; rcases hx with rfl | rfl <;> exact ⟨_, rfl⟩⟩ (List.Perm.refl _) (by simp [keyM, atomKey]; decide)).symm
theorem operands_tail (H : L1 C) (W : FlowAt σ L S) (h88 : alook ρ 88 = some (.inst 208 L.f)) (h153 : alook ρ 153 = some (.int k)) :
  E2 fun ρ' σ' => Xs C (n + 2) tailBody ρ σ (.ret (.bool true)) ρ' σ' ∧ Kp [L.f] σ σ' := by
 obtain ⟨as, a1, _⟩ := W.ns
 have a2 := W.only as a1 152 (by decide)
 have hfl := (List.getElem?_eq_some_iff.mp a1).1
 have hsum := summary_spec (C := C) (n := n) (σ := σ) H
 let bs : List (Nat × MV) := [(121, .loc (σ.length + 1)), (113, .loc (σ.length + 2)), (225, .loc (σ.length + 3))]
 have K₁ : Kp [] σ (σ ++ MO.ns bs :: [MO.dict 0 [], MO.dict 0 [], MO.dict 0 []]) := Kp.new ..
 have hm : (σ ++ MO.ns bs :: [MO.dict 0 [], MO.dict 0 [], MO.dict 0 []])[σ.length]? = some (.ns bs) := by simp
 have hlt : (σ ++ MO.ns bs :: [MO.dict 0 [], MO.dict 0 [], MO.dict 0 []])[σ.length + 3]? = some (.dict 0 []) := by rw [List.getElem?_append_right (by lia)]; simp
 have hlen : (σ ++ MO.ns bs :: [MO.dict 0 [], MO.dict 0 [], MO.dict 0 []]).length = σ.length + 4 := by simp
 have hsum' : CallEv C (n + 2) (.ref 54) [] σ (.inst 54 σ.length) (σ ++ MO.ns bs :: [MO.dict 0 [], MO.dict 0 [], MO.dict 0 []]) := hsum
 generalize σ ++ MO.ns bs :: [MO.dict 0 [], MO.dict 0 [], MO.dict 0 []] = σ₁ at K₁ hm hlt hlen hsum'
 let ρ₁ := aset ρ 214 (.inst 54 σ.length)
 have b88 : alook ρ₁ 88 = some (.inst 208 L.f) := look_ne h88 (by decide)
 have b153 : alook ρ₁ 153 = some (.int k) := look_ne h153 (by decide)
 have b214 : alook ρ₁ 214 = some (.inst 54 σ.length) := alook_aset_same ..
 have h225 : alook bs 225 = some (.loc (σ.length + 3)) := rfl
 have h226 : alook bs 226 = none := rfl
 have ht := told_new (C := C) (n := n) (e := .var 153) (k := k) H b214 hm h225 h226 hlt (by simp) (by simp) (.var b153)
 have K₂ : Kp [] σ ((σ₁ ++ [MO.dict 0 []]).set (σ.length + 3) (.dict (0 + 1) ([] ++ [(.int k, .loc σ₁.length)]))) := (K₁.trans' (Kp.new ..)).setNew (by lia)
 have I₂ : TSt ((σ₁ ++ [MO.dict 0 []]).set (σ.length + 3) (.dict (0 + 1) ([] ++ [(.int k, .loc σ₁.length)]))) L.f σ.length (σ.length + 3) σ₁.length k [] := by
  refine ⟨⟨as, K₂.get a1, a2⟩, ⟨bs, ?_, h225, h226⟩, ⟨1, List.getElem?_set_self (by simp; lia)⟩, ⟨0, ?_⟩⟩
  ·rw [List.getElem?_set_ne (by lia)]; exact (Kp.new [] σ₁ _).get hm
  ·rw [List.getElem?_set_ne (by lia)]; exact get_new ..
 generalize (σ₁ ++ [MO.dict 0 []]).set (σ.length + 3) (.dict (0 + 1) ([] ++ [(.int k, .loc σ₁.length)])) = σ₂ at ht K₂ I₂
 obtain ⟨σ₃, hX₃, I₃, K₃⟩ := note_after (x := -1) (e := .neg (.lit (.int 1))) H ht I₂ ⟨as, K₁.get a1, a2⟩ b88 (by simp) (by simp) (fun σ => .neg .lit)
 obtain ⟨σ₄, hX₄, I₄, K₄⟩ := told_note (n := n) (x := 1) (e := .lit (.int 1)) H I₃ b88 b214 b153 (fun v hv => by
  rcases mem_addM.mp hv with h | h
  ·simp at h
  ·exact ⟨_, h⟩) (by have := addM_length (ks := []) (k := .int (-1)); simp at this; lia) (fun σ => .lit)
 have eks : addM (addM [] (.int (-1))) (.int 1) = [.int (-1), .int 1] := rfl
 rw [eks] at I₄
 have h5 := told_here (n := n) (e := .var 153) H I₄ b214 (.var b153)
 have K₅ : Kp [] σ₄ (σ₄ ++ [MO.dict 0 []]) := Kp.new ..
 have I₅ := I₄.keep K₅
 generalize σ₄ ++ [MO.dict 0 []] = σ₅ at h5 K₅ I₅
 obtain ⟨eq, d1⟩ := I₅.tab
 have hs := CallEv.sortedD (C := C) (n := n + 2) d1 (by rw [keys_tds]; exact ⟨by simp, .inl fun x hx => by simp at hx; rcases hx with rfl | rfl <;> exact ⟨_, rfl⟩⟩) (by simp [tds])
 rw [keys_tds, sort_ones] at hs
 have K₆ : Kp [] σ₅ (σ₅ ++ [MO.list [.int (-1), .int 1]]) := Kp.new ..
 have hl6 : (σ₅ ++ [MO.list [.int (-1), .int 1]])[σ₅.length]? = some (.list [.int (-1), .int 1]) := get_new ..
 have hcall : Ev C (n + 2) (.call (.glob 207) [.meth (.var 214) 226 [.var 153]]) ρ₁ σ₄ (.loc σ₅.length) (σ₅ ++ [MO.list [.int (-1), .int 1]]) := .call (gl_sorted H) (.inl fun _ q => by cases q) (.cons h5 .nil) hs
 have I₆ := I₅.keep K₆
 generalize hσ₆ : σ₅ ++ [MO.list [.int (-1), .int 1]] = σ₆ at K₆ hl6 hcall I₆
 have hlit : Ev C (n + 2) (.list [.neg (.lit (.int 1)), .lit (.int 1)]) ρ₁ σ₆ (.loc σ₆.length) (σ₆ ++ [MO.list [.int (-1), .int 1]]) := .list (.cons (.neg .lit) (.cons .lit .nil))
 have K₇ : Kp [] σ₆ (σ₆ ++ [MO.list [.int (-1), .int 1]]) := Kp.new ..
 have hA : Ev C (n + 2) (.cmp .Eq (.call (.glob 207) [.meth (.var 214) 226 [.var 153]]) (.list [.neg (.lit (.int 1)), .lit (.int 1)])) ρ₁ σ₄ (.bool true) (σ₆ ++ [MO.list [.int (-1), .int 1]]) :=
  .cmp hcall hlit (Op.eqL (K₇.get hl6) (get_new ..) (by decide) (by decide))
 have I₇ := I₆.keep K₇
 generalize σ₆ ++ [MO.list [.int (-1), .int 1]] = σ₇ at K₇ hA I₇
 obtain ⟨cs, s1, s2, s3⟩ := I₇.sum
 obtain ⟨ep, t1⟩ := I₇.told
 have h8 := told_new (C := C) (n := n) (e := .bin .Add (.var 153) (.lit (.int 1))) (k := k + 1) H b214 s1 s2 s3 t1 (fun e he => by simp at he; subst he; exact ⟨k, rfl, by lia⟩) (by simp) (.bin (.var b153) .lit Op.addI)
 have hne : σ.length + 3 ≠ σ₇.length := by have := (List.getElem?_eq_some_iff.mp t1).1; lia
 have hd8 : ((σ₇ ++ [MO.dict 0 []]).set (σ.length + 3) (.dict (ep + 1) ([(.int k, .loc σ₁.length)] ++ [(.int (k + 1), .loc σ₇.length)])))[σ₇.length]? = some (.dict 0 []) := by rw [List.getElem?_set_ne hne]; exact get_new ..
 have K₄' : Kp [L.f] σ σ₄ := (K₂.up).trans (K₃.trans' K₄) (fun a ha => by simp at ha; rcases ha with rfl | rfl <;> first | (left; simp; done) | (right; lia))
 have K₈ : Kp [L.f] σ ((σ₇ ++ [MO.dict 0 []]).set (σ.length + 3) (.dict (ep + 1) ([(.int k, .loc σ₁.length)] ++ [(.int (k + 1), .loc σ₇.length)]))) := (K₄'.trans' ((((K₅.trans' K₆).trans' K₇).trans' (Kp.new ..)).up)).setNewD (by lia)
 generalize (σ₇ ++ [MO.dict 0 []]).set (σ.length + 3) (.dict (ep + 1) ([(.int k, .loc σ₁.length)] ++ [(.int (k + 1), .loc σ₇.length)])) = σ₈ at h8 hd8 K₈
 have hB : Ev C (n + 2) (.cmp .Eq (.meth (.var 214) 226 [.bin .Add (.var 153) (.lit (.int 1))]) (.dict [] [])) ρ₁ σ₇ (.bool true) (σ₈ ++ [MO.dict 0 []]) :=
  .cmp h8 .dict0 (Op.eqD ((Kp.new [] σ₈ _).get hd8) (get_new ..) (by simp) (by simp) (by simp) (by simp)).1
 exact ⟨ρ₁, σ₈ ++ [MO.dict 0 []], .cons (.setv (.call (gl_Summary H) (.inr (clsOk (cl_Summary H)).keep) .nil hsum')) (.cons hX₃ (.cons hX₄ (.out (.ret (.and2 hA (fun _ => hB) (fun h => by cases h))) (by simp)))), K₈.trans' ((Kp.new [] σ₈ _).up)⟩
end
end Mine
namespace Mine
open PySem PySem.W PyProof.Rows PySem.Calls PySem.Spec PySem.SeqAt
section
variable {C : Cx} {n f m lt q p l : Nat} {σ₀ σ σ' : MH} {ρ : List (Nat × MV)} {e : IE} {ks xs : List MV} {k x : Int} {L : FL} {S : TS} {D : List Nat}
theorem FlowAt.keepD (W : FlowAt σ L S) (h : Kp D σ σ') (hD : ∀ x ∈ D, x ∉ own L S ∧ x ≠ L.lm) : FlowAt σ' L S := by
 obtain ⟨w1, ⟨as, a1, a2⟩, w0, ⟨bs, b1, b2⟩, ⟨e1, c1⟩, ⟨e2, d1⟩, w6, w7⟩ := W
 have hf : L.f ∉ D := fun q => (hD _ q).1 (by simp [own])
 have hf' := h.keep _ _ hf a1
 exact ⟨w1, ⟨as, hf', a2⟩, fun as' q => w0 as' (by rw [hf'] at q; rw [a1]; exact q), ⟨bs, h.keep _ _ (fun q => (hD _ q).2 rfl) b1, b2⟩, ⟨e1, h.keep _ _ (fun q => (hD _ q).1 (by simp [own])) c1⟩, ⟨e2, h.keep _ _ (fun q => (hD _ q).1 (by simp [own])) d1⟩, fun t ht => (w6 t ht).imp fun _ q => h.keep _ _ (fun q' => (hD _ q').1 (by simp [own, ht])) q, w7⟩
theorem FlowAt.keepL (W : FlowAt σ L S) (hp : σ[p]? = some (.list xs)) (h : Kp [p] σ σ') : FlowAt σ' L S := W.keepD h fun x hx => by
 rw [List.mem_singleton.mp hx]
 refine ⟨W.list_off hp, fun e => ?_⟩
 obtain ⟨bs, b1, _⟩ := W.sm
 rw [e, b1] at hp; cases hp
theorem FlowAt.keepS (W : FlowAt σ L S) (hp : Src σ p) (h : Kp [p] σ σ') : FlowAt σ' L S := by
 obtain ⟨g, s, h1, _⟩ := hp; exact W.keepL h1 h
noncomputable def PairAt (σ : MH) (p : Nat) (v : MV) : Prop := ∃ u dl r, v = .tup [u, .loc dl] ∧ OW [] [u] r ∧ σ[dl]? = some (.list (dueOf r)) ∧ dl ≠ p
theorem PairAt.keep {v : MV} (h : PairAt σ p v) (K : Kp [p] σ σ') : PairAt σ' p v := by
 obtain ⟨u, dl, r, h1, h2, h3, h4⟩ := h
 exact ⟨u, dl, r, h1, h2, K.keep _ _ (by simpa using h4) h3, h4⟩
theorem ow_none : OW [] [.none] [] := .atom (ws := []) (.inl rfl) (by decide) .stop
theorem ow_int (i : Int) : OW [] [.int i] [] := .atom (ws := []) (.inr (.inl ⟨i, rfl⟩)) (by decide) .stop
theorem ow_bytes (b : Array UInt8) : OW [] [.bytes b] [] := .atom (ws := []) (.inr (.inr ⟨b, rfl⟩)) (by decide) .stop
theorem ow_ptr (i : Int) : OW [] [.tup [.str 168, .int i, .tup []]] [.int i] := .ref (ws := []) (by decide) (by simp [pv, pvs]; decide) (by decide) .stop
theorem ow_struct : OW [] [.tup [.str 211, .tup [.int 1, .tup [.str 142, .int 6]]]] [.int 6] :=
 .row (ws := []) (by decide) (by decide) (by decide) (by decide) (.atom (ws := [.tup [.str 142, .int 6]]) (.inr (.inl ⟨1, rfl⟩)) (by decide) (.ref (ws := []) (by decide) (by decide) (by decide) .stop))
theorem ow_array : OW [] [.tup [.str 50, .tup [.int 1, .int 2]]] [] :=
 .row (ws := []) (by decide) (by decide) (by decide) (by decide) (.atom (ws := [.int 2]) (.inr (.inl ⟨1, rfl⟩)) (by decide) (.atom (ws := []) (.inr (.inl ⟨2, rfl⟩)) (by decide) .stop))
theorem ow_iface : OW [] [.tup [.str 86, .tup [.str 107, .str 107], .tup [.str 205, .int 3, .int 0, .int 1, .int 1]]] [.int 3] :=
 .face (ws := []) (by decide) (by decide) (.ref (ws := []) (by decide) (by decide) (by decide) .stop)
theorem due_nil : dueOf [] = [] := if_pos rfl
theorem due_cons (x : MV) (xs : List MV) : dueOf (x :: xs) = [bv] := if_neg (by simp)
noncomputable abbrev fiveE : IE := .list [.tup [.lit .none, .list []], .tup [.lit (.int 7), .list []], .tup [.lit (.bytes #[120]), .list []], .tup [.tup [.lit (.str 168), .lit (.int 5), .tup []], .var 161], .tup [.tup [.lit (.str 211), .tup [.lit (.int 1), .tup [.lit (.str 142), .lit (.int 6)]]], .var 161]]
noncomputable abbrev twoE : IE := .list [.tup [.tup [.lit (.str 50), .tup [.lit (.int 1), .lit (.int 2)]], .list []], .tup [.tup [.lit (.str 86), .var 19, .tup [.lit (.str 205), .lit (.int 3), .lit (.int 0), .lit (.int 1), .lit (.int 1)]], .var 161]]
noncomputable abbrev TV : MV := .tup [.str 107, .str 107]
theorem ev_empty : Ev C n (.list []) ρ σ (.loc σ.length) (σ ++ [MO.list []]) := .list .nil
theorem ev_five {o : Nat} (ho : alook ρ 161 = some (.loc o)) (h : σ[o]? = some (.list [bv])) (hp : p < σ.length) (hop : o ≠ p) :
  E3 fun vs σ' i => N5 (Ev C n fiveE ρ σ (.loc i) σ') (Kp [] σ σ') (σ'[i]? = some (.list vs)) (vs.length = 5) (∀ v ∈ vs, PairAt σ' p v) := by
 let a1 := σ ++ [MO.list []]
 let a2 := a1 ++ [MO.list []]
 let a3 := a2 ++ [MO.list []]
 have l1 : a1.length = σ.length + 1 := by simp [a1]
 have l2 : a2.length = σ.length + 2 := by simp [a2, l1]
 let vs : List MV := [.tup [.none, .loc σ.length], .tup [.int 7, .loc a1.length], .tup [.bytes #[120], .loc a2.length], .tup [.tup [.str 168, .int 5, .tup []], .loc o], .tup [.tup [.str 211, .tup [.int 1, .tup [.str 142, .int 6]]], .loc o]]
 have hE : Ev C n fiveE ρ σ (.loc a3.length) (a3 ++ [MO.list vs]) :=
  .list (.cons (.tup (.cons .lit (.cons ev_empty .nil))) (.cons (.tup (.cons .lit (.cons ev_empty .nil))) (.cons (.tup (.cons .lit (.cons ev_empty .nil))) (.cons (.tup (.cons (.tup (.cons .lit (.cons .lit (.cons (.tup .nil) .nil)))) (.cons (.var ho) .nil))) (.cons (.tup (.cons (.tup (.cons .lit (.cons (.tup (.cons .lit (.cons (.tup (.cons .lit (.cons .lit .nil))) .nil))) .nil))) (.cons (.var ho) .nil))) .nil))))) (show (5 : Nat) ≤ 64 by decide)
 have K1 : Kp [] a1 a2 := Kp.new ..
 have K2 : Kp [] a2 a3 := Kp.new ..
 have K3 : Kp [] a3 (a3 ++ [MO.list vs]) := Kp.new ..
 have K : Kp [] σ (a3 ++ [MO.list vs]) := (((Kp.new [] σ _).trans' K1).trans' K2).trans' K3
 refine ⟨vs, _, _, hE, K, get_new .., rfl, fun v hv => ?_⟩
 have q1 : (a3 ++ [MO.list vs])[σ.length]? = some (.list []) := ((K1.trans' K2).trans' K3).get (get_new ..)
 have q2 : (a3 ++ [MO.list vs])[a1.length]? = some (.list []) := (K2.trans' K3).get (get_new ..)
 have q3 : (a3 ++ [MO.list vs])[a2.length]? = some (.list []) := K3.get (get_new ..)
 have q4 := K.get h
 simp only [vs, List.mem_cons, List.not_mem_nil, or_false] at hv
 rcases hv with rfl | rfl | rfl | rfl | rfl
 ·exact ⟨_, _, [], rfl, ow_none, by rw [due_nil]; exact q1, by lia⟩
 ·exact ⟨_, _, [], rfl, ow_int 7, by rw [due_nil]; exact q2, by lia⟩
 ·exact ⟨_, _, [], rfl, ow_bytes _, by rw [due_nil]; exact q3, by lia⟩
 ·exact ⟨_, _, _, rfl, ow_ptr 5, by rw [due_cons]; exact q4, hop⟩
 ·exact ⟨_, _, _, rfl, ow_struct, by rw [due_cons]; exact q4, hop⟩
theorem ev_two {o : Nat} (ho : alook ρ 161 = some (.loc o)) (hT : alook ρ 19 = some TV) (h : σ[o]? = some (.list [bv])) (hp : p < σ.length) (hop : o ≠ p) :
  E3 fun vs σ' i => N5 (Ev C n twoE ρ σ (.loc i) σ') (Kp [] σ σ') (σ'[i]? = some (.list vs)) (vs.length = 2) (∀ v ∈ vs, PairAt σ' p v) := by
 let a1 := σ ++ [MO.list []]
 let vs : List MV := [.tup [.tup [.str 50, .tup [.int 1, .int 2]], .loc σ.length], .tup [.tup [.str 86, TV, .tup [.str 205, .int 3, .int 0, .int 1, .int 1]], .loc o]]
 have hE : Ev C n twoE ρ σ (.loc a1.length) (a1 ++ [MO.list vs]) :=
  .list (.cons (.tup (.cons (.tup (.cons .lit (.cons (.tup (.cons .lit (.cons .lit .nil))) .nil))) (.cons ev_empty .nil))) (.cons (.tup (.cons (.tup (.cons .lit (.cons (.var hT) (.cons (.tup (.cons .lit (.cons .lit (.cons .lit (.cons .lit (.cons .lit .nil)))))) .nil)))) (.cons (.var ho) .nil))) .nil)) (show (2 : Nat) ≤ 64 by decide)
 have K1 : Kp [] a1 (a1 ++ [MO.list vs]) := Kp.new ..
 have K : Kp [] σ (a1 ++ [MO.list vs]) := (Kp.new [] σ _).trans' K1
 refine ⟨vs, _, _, hE, K, get_new .., rfl, fun v hv => ?_⟩
 have q1 : (a1 ++ [MO.list vs])[σ.length]? = some (.list []) := K1.get (get_new ..)
 have q4 := K.get h
 simp only [vs, List.mem_cons, List.not_mem_nil, or_false] at hv
 rcases hv with rfl | rfl
 ·exact ⟨_, _, [], rfl, ow_array, by rw [due_nil]; exact q1, by lia⟩
 ·exact ⟨_, _, _, rfl, ow_iface, by rw [due_cons]; exact q4, hop⟩
end
end Mine
namespace Mine
open PySem PySem.W PyProof.Rows PySem.Calls PySem.Spec PySem.SeqAt
section
variable {C : Cx} {n f m lt q p l : Nat} {σ₀ σ σ' : MH} {ρ : List (Nat × MV)} {e : IE} {ks xs : List MV} {k x : Int} {L : FL} {S : TS} {D : List Nat}
theorem due_len (r : List MV) : (dueOf r).length ≤ 1 := by unfold dueOf; split <;> simp
noncomputable abbrev askBody : List IS := [
 .ite (.or [.cmp .NotEq (.meth (.var 88) 223 [.tup [.lit (.str 72), .var 19, .var 230]]) (.var 80), .cmp .NotEq (.meth (.var 88) 223 [.lit .none]) (.list []), .cmp .NotEq (.meth (.var 88) 223 [.tup [.lit (.str 176), .lit (.int 70)]]) (.list [])]) [
  .ret (.lit (.bool false))] [],
 .ite (.cmp .NotEq (.meth (.var 88) 224 [.tup [.tup [.lit (.str 72), .var 19, .var 230], .tup [.lit (.str 72), .var 19, .tup [.lit (.str 168), .lit (.int 9), .tup []]]]]) (.bin .Add (.var 80) (.list [.tup [.lit (.str 54)]]))) [
  .ret (.lit (.bool false))] [] ]
theorem ask_body (H : L1 C) (W : FlowAt σ L S) {v : MV} {r : List MV} {dl : Nat} (hw : OW [] [v] r) (hd : σ[dl]? = some (.list (dueOf r))) (h88 : alook ρ 88 = some (.inst 208 L.f)) (h19 : alook ρ 19 = some TV) (h230 : alook ρ 230 = some v) (h80 : alook ρ 80 = some (.loc dl)) {rest : List IS} {fl : Fl} {ρ' : List (Nat × MV)}
  (hrest : ∀ σ', Kp [] σ σ' → E2 fun ρ' σ'' => Xs C (n + 3) rest ρ σ' (.ret (.bool true)) ρ' σ'') : E2 fun ρ' σ'' => Xs C (n + 3) (askBody ++ rest) ρ σ (.ret (.bool true)) ρ' σ'' := by
 have hdp := due_pvs r
 obtain ⟨σ₁, k₁, hc₁, K₁, _, hr₁⟩ := tokens_const (C := C) (n := n + 1) (σ := σ) (w := L.f) (T := TV) H hw
 have e₁ : Ev C (n + 3) (.meth (.var 88) 223 [.tup [.lit (.str 72), .var 19, .var 230]]) ρ σ (.loc k₁) σ₁ := ev_methV H W h88 (by decide) (me_EscapeFlow_tokens_of H) (.cons (.tup (.cons .lit (.cons (.var h19) (.cons (.var h230) .nil)))) .nil) hc₁
 have t₁ : Tst C (n + 3) (.cmp .NotEq (.meth (.var 88) 223 [.tup [.lit (.str 72), .var 19, .var 230]]) (.var 80)) ρ σ false σ₁ := by
  have := Tst.cmp e₁ (.var h80) (Op.neL hr₁ (K₁.get hd) hdp hdp)
  rwa [MV.beqs_refl] at this
 have K₂ : Kp [] σ₁ (σ₁ ++ [MO.list []]) := Kp.new ..
 have W₁ := W.keep K₁
 have e₂ : Ev C (n + 3) (.meth (.var 88) 223 [.lit .none]) ρ σ₁ (.loc σ₁.length) (σ₁ ++ [MO.list []]) := ev_methV H W₁ h88 (by decide) (me_EscapeFlow_tokens_of H) (.cons .lit .nil) (tokens_none (n := n + 1) H)
 have t₂ : Tst C (n + 3) (.cmp .NotEq (.meth (.var 88) 223 [.lit .none]) (.list [])) ρ σ₁ false ((σ₁ ++ [MO.list []]) ++ [MO.list []]) :=
  Tst.cmp e₂ ev_empty (Op.neL ((Kp.new [] _ _).get (get_new ..)) (get_new ..) (by decide) (by decide))
 have K₂' : Kp [] σ ((σ₁ ++ [MO.list []]) ++ [MO.list []]) := (K₁.trans' K₂).trans' (Kp.new ..)
 generalize (σ₁ ++ [MO.list []]) ++ [MO.list []] = σ₂ at t₂ K₂'
 have W₂ := W.keep K₂'
 obtain ⟨σ₃, k₃, zs, hc₃, K₃, _, hr₃, _, hm₃⟩ := tokens_reg (n := n + 1) (r := 70) H W₂
 have hz : zs = [] := by
  cases zs with
  | nil => rfl
  | cons z zs =>
   obtain ⟨l, hl, _⟩ := (hm₃ z).mp (by simp)
   have := W.ok.regs _ hl
   simp only at this; lia
 subst hz
 have e₃ : Ev C (n + 3) (.meth (.var 88) 223 [.tup [.lit (.str 176), .lit (.int 70)]]) ρ σ₂ (.loc k₃) σ₃ := ev_methV H W₂ h88 (by decide) (me_EscapeFlow_tokens_of H) (.cons (.tup (.cons .lit (.cons .lit .nil))) .nil) hc₃
 have t₃ : Tst C (n + 3) (.cmp .NotEq (.meth (.var 88) 223 [.tup [.lit (.str 176), .lit (.int 70)]]) (.list [])) ρ σ₂ false (σ₃ ++ [MO.list []]) :=
  Tst.cmp e₃ ev_empty (Op.neL ((Kp.new [] _ _).get hr₃.1) (get_new ..) (by decide) (by decide))
 have K₃' : Kp [] σ (σ₃ ++ [MO.list []]) := (K₂'.trans' K₃).trans' (Kp.new ..)
 generalize σ₃ ++ [MO.list []] = σ₄ at t₃ K₃'
 have W₄ := W.keep K₃'
 obtain ⟨σ₅, k₅, hc₅, K₅, _, hr₅⟩ := tokens_all2 (n := n) (T := TV) H W₄ hw (ow_ptr 9)
 rw [due_cons] at hr₅
 have e₅ : Ev C (n + 3) (.meth (.var 88) 224 [.tup [.tup [.lit (.str 72), .var 19, .var 230], .tup [.lit (.str 72), .var 19, .tup [.lit (.str 168), .lit (.int 9), .tup []]]]]) ρ σ₄ (.loc k₅) σ₅ :=
  ev_methV H W₄ h88 (by decide) (me_EscapeFlow_tokens_of_all H) (.cons (.tup (.cons (.tup (.cons .lit (.cons (.var h19) (.cons (.var h230) .nil)))) (.cons (.tup (.cons .lit (.cons (.var h19) (.cons (.tup (.cons .lit (.cons .lit (.cons (.tup .nil) .nil)))) .nil)))) .nil))) .nil) hc₅
 have hd₅ := (K₃'.trans' K₅).get hd
 have K₆ : Kp [] σ₅ (σ₅ ++ [MO.list [bv]]) := Kp.new ..
 have K₇ : Kp [] (σ₅ ++ [MO.list [bv]]) ((σ₅ ++ [MO.list [bv]]) ++ [MO.list (dueOf r ++ [bv])]) := Kp.new ..
 have e₆ : Ev C (n + 3) (.bin .Add (.var 80) (.list [.tup [.lit (.str 54)]])) ρ σ₅ (.loc (σ₅ ++ [MO.list [bv]]).length) ((σ₅ ++ [MO.list [bv]]) ++ [MO.list (dueOf r ++ [bv])]) :=
  .bin (.var h80) (.list (.cons (.tup (.cons .lit .nil)) .nil)) (Op.addL (K₆.get hd₅) (get_new ..) (by rw [sizeLine_eq]; have := due_len r; simp; lia))
 have hp2 : pvs (dueOf r ++ [bv]) 8 = true := by unfold dueOf; split <;> decide
 have t₅ : Tst C (n + 3) (.cmp .NotEq (.meth (.var 88) 224 [.tup [.tup [.lit (.str 72), .var 19, .var 230], .tup [.lit (.str 72), .var 19, .tup [.lit (.str 168), .lit (.int 9), .tup []]]]]) (.bin .Add (.var 80) (.list [.tup [.lit (.str 54)]]))) ρ σ₄ false ((σ₅ ++ [MO.list [bv]]) ++ [MO.list (dueOf r ++ [bv])]) := by
  have := Tst.cmp e₅ e₆ (Op.neL ((K₆.trans' K₇).get hr₅) (get_new ..) hp2 hp2)
  rwa [MV.beqs_refl] at this
 obtain ⟨ρ', σ'', hX⟩ := hrest _ ((((K₃'.trans' K₅).trans' K₆).trans' K₇))
 exact ⟨ρ', σ'', .cons (.ite_f (.or (.orF t₁ (.orF t₂ (.orF t₃ .nilO)))) .nil) (.cons (.ite_f t₅ .nil) hX)⟩
theorem law_operands_spec (H : L1 C) (W : FlowAt σ L S) (hs : Src σ p) : ∃ σ', CallEv C (n + 4) (.ref 357) [.loc p, .inst 208 L.f] σ (.bool true) σ' := by
 let ρ₀ : List (Nat × MV) := [(208, .loc p), (88, .inst 208 L.f)]
 obtain ⟨σ₁, num, hc₁, K₁, hs₁, _, _⟩ := law_take_spec (n := n + 2) (top := 9) H hs (by decide) (by decide)
 have W₁ := W.keepS hs K₁
 let ρ₁ := asets ρ₀ [19, 153] [TV, .int num]
 have hX₁ : X1 C (n + 3) (.sett [19, 153] (.tup [.tup [.lit (.str 107), .lit (.str 107)], .call (.glob 46) [.var 208, .lit (.int 9)]])) ρ₀ σ .next ρ₁ σ₁ :=
  .sett (.tup (.cons (.tup (.cons .lit (.cons .lit .nil))) (.cons (.call (gl_law_take H) (ke_law_take H) (.cons (.var rfl) (.cons .lit .nil)) hc₁) .nil)))
 have K₂ : Kp [] σ₁ (σ₁ ++ [MO.list [bv]]) := Kp.new ..
 let ρ₂ := aset ρ₁ 161 (.loc σ₁.length)
 have hX₂ : X1 C (n + 3) (.setv 161 (.list [.tup [.lit (.str 54)]])) ρ₁ σ₁ .next ρ₂ (σ₁ ++ [MO.list [bv]]) := .setv (.list (.cons (.tup (.cons .lit .nil)) .nil))
 have ho : (σ₁ ++ [MO.list [bv]])[σ₁.length]? = some (.list [bv]) := get_new ..
 have hop : σ₁.length ≠ p := by have := hs₁.lt; lia
 have hs₂ := hs₁.keep K₂ (by simp)
 have W₂ := W₁.keep K₂
 generalize σ₁ ++ [MO.list [bv]] = σ₂ at K₂ hX₂ ho hs₂ W₂
 obtain ⟨vs, σ₃, i₃, e₃, K₃, h₃, l₃, p₃⟩ := ev_five (C := C) (n := n + 3) (ρ := ρ₂) (p := p) rfl ho hs₂.lt hop
 let ρ₃ := aset ρ₂ 206 (.loc i₃)
 have W₃ := W₂.keep K₃
 have hs₃ := hs₂.keep K₃ (by simp)
 obtain ⟨us, σ₄, i₄, e₄, K₄, h₄, l₄, p₄⟩ := ev_two (C := C) (n := n + 3) (ρ := ρ₃) (p := p) rfl rfl (K₃.get ho) hs₃.lt hop
 have K₅ : Kp [] σ₄ (σ₄ ++ [MO.list (vs ++ us)]) := Kp.new ..
 have e₅ : Ev C (n + 3) (.bin .Add (.var 206) twoE) ρ₃ σ₃ (.loc σ₄.length) (σ₄ ++ [MO.list (vs ++ us)]) := .bin (.var rfl) e₄ (Op.addL (K₄.get h₃) h₄ (by rw [sizeLine_eq]; lia))
 have hs₅ := (hs₃.keep K₄ (by simp)).keep K₅ (by simp)
 obtain ⟨σ₆, pr, hc₆, K₆, hs₆, hpr⟩ := law_one_spec (n := n + 1) H hs₅ (get_new σ₄ (.list (vs ++ us))) (by have := (hs₃.keep K₄ (by simp)).lt; lia) (by intro e; have := congrArg List.length e; simp [l₃] at this) (by simp [l₃, l₄])
 have hpair : PairAt σ₆ p pr := by
  rcases List.mem_append.mp hpr with h | h
  ·exact (((p₃ pr h).keep (K₄.up)).keep (K₅.up)).keep K₆
  ·exact ((p₄ pr h).keep (K₅.up)).keep K₆
 obtain ⟨v, dl, r, rfl, hw, hd, _⟩ := hpair
 have W₆ := ((W₃.keep K₄).keep K₅).keepS hs₅ K₆
 let ρ₄ := asets ρ₃ [230, 80] [v, .loc dl]
 have hX₆ : X1 C (n + 3) (.sett [230, 80] (.call (.glob 33) [.var 208, .bin .Add (.var 206) twoE])) ρ₃ σ₃ .next ρ₄ σ₆ := .sett (.call (gl_law_one H) (ke_law_one H) (.cons (.var rfl) (.cons e₅ .nil)) hc₆)
 obtain ⟨ρ', σ', hX⟩ := ask_body (n := n) (ρ := ρ₄) (rest := tailBody) (fl := .next) (ρ' := []) H W₆ hw hd rfl rfl rfl rfl fun σ' K => by
  obtain ⟨ρ', σ'', a, _⟩ := operands_tail (n := n + 1) (ρ := ρ₄) (k := num) H (W₆.keep K) rfl rfl
  exact ⟨ρ', σ'', a⟩
 exact ⟨σ', .fn (fn_law_operands_right H) (.cons hX₁ (.cons hX₂ (.cons (.setv e₃) (.cons hX₆ hX)))) (.inl rfl)⟩
end
end Mine
namespace Mine
open PySem PySem.W PyProof.Rows PySem.Calls PySem.Spec PySem.SeqAt
noncomputable def ZA : TS := { held := [(0, 4), (1, 5), (2, 6)], inside := [(48, 7)], sites := 0, gone := 1, leaks := 2, kept := 3, T := fun x => if x = 0 then [.str 48] else if x = 1 then [.str 48] else if x = 2 then [.int 1] else if x = 3 then [] else if x = 4 then [ov 0] else if x = 5 then [ov 1] else if x = 6 then [sv 48] else if x = 7 then [ov 1] else [] }
theorem za_ins {k : Nat} {v : MV} : insT ZA k v ↔ k = 48 ∧ v = ov 1 := by
 constructor
 ·rintro ⟨l, h1, h2⟩
  simp [ZA] at h1
  obtain ⟨rfl, rfl⟩ := h1
  simp [ZA] at h2; exact ⟨rfl, h2⟩
 ·rintro ⟨rfl, rfl⟩; exact ⟨7, by simp [ZA], by simp [ZA]⟩
theorem za_gone {k : Nat} : goneT ZA k ↔ k = 48 := by simp [goneT, ZA]
theorem za_leak {o : Int} : leakT ZA o ↔ o = 1 := by simp [leakT, ZA]
theorem za_kept {i o : Int} : ¬ keptT ZA i o := by simp [keptT, ZA]
theorem za_next {u v : MV} (h : Next ZA u v) : u = sv 48 ∧ (v = ov 1 ∨ v = bv) := by
 cases h with
 | ins h => obtain ⟨rfl, rfl⟩ := za_ins.mp h; exact ⟨rfl, .inl rfl⟩
 | gone h => rw [za_gone.mp h]; exact ⟨rfl, .inr rfl⟩
 | kept h => exact absurd h za_kept
theorem za_reach {v : MV} (h : Reach ZA (· ∈ [sv 48]) v) : v = sv 48 ∨ v = ov 1 ∨ v = bv := by
 cases h with
 | base h => simp at h; exact .inl h
 | step _ h => exact .inr (za_next h).2
theorem za_reach1 {v : MV} (h : Reach ZA (· ∈ [ov 1]) v) : v = ov 1 := by
 induction h with
 | base h => simp at h; exact h
 | step _ h ih => rw [ih] at h; exact absurd (za_next h).1 sv_ne_ov
theorem za_out : Out ZA ZA (· ∈ [sv 48]) := fun v hv => by
 rcases za_reach hv with rfl | rfl | rfl
 ·exact ⟨fun k e => za_gone.mpr (sv_inj e).symm, fun o e => absurd e.symm sv_ne_ov⟩
 ·exact ⟨fun k e => absurd e sv_ne_ov, fun o e => za_leak.mpr (ov_inj e).symm⟩
 ·exact ⟨fun k e => absurd e bv_ne_sv, fun o e => absurd e.symm ov_ne_bv⟩
theorem za_out1 : Out ZA ZA (· ∈ [ov 1]) := fun v hv => by
 rw [za_reach1 hv]
 exact ⟨fun k e => absurd e sv_ne_ov, fun o e => za_leak.mpr (ov_inj e).symm⟩
theorem za_put : ∀ x ∈ [sv 48], PutReq ZA ZA x (· ∈ [ov 1]) := fun x hx => by
 simp at hx; subst hx
 exact ⟨fun e => absurd e.symm bv_ne_sv, fun o e => absurd e.symm sv_ne_ov, fun k e => ⟨fun v hv => za_ins.mpr ⟨(sv_inj e).symm, by simpa using hv⟩, fun _ => za_out1⟩⟩
theorem one_only {l : List MV} {a : MV} (hn : l.Nodup) (h : a ∈ l) (ha : ∀ x ∈ l, x = a) : l = [a] := by
 cases l with
 | nil => simp at h
 | cons x xs =>
  have hx := ha x (by simp)
  subst hx
  rw [List.nodup_cons] at hn
  cases xs with
  | nil => rfl
  | cons y ys => exact absurd (ha y (by simp)) (fun e => hn.1 (by rw [e]; simp))
section
variable {C : Cx} {n l : Nat} {σ₀ σ σ' : MH} {ρ : List (Nat × MV)} {e : IE} {ks xs : List MV} {k x : Int} {L : FL} {S : TS} {D : List Nat}
theorem table_ne {t ep : Nat} {a : MV} (he : Ev C n e ρ σ (.loc t) σ) (ht : σ[t]? = some (.dict ep (tds [a]))) (ha : a.isAtom) (hl : ∀ xs, a ≠ .tup xs) :
  ∃ σ', Tst C n (.cmp .NotEq e (.dict [.lit a] [.lit (.bool true)])) ρ σ false σ' ∧ Kp [] σ σ' := by
 have hd : Ev C n (.dict [.lit a] [.lit (.bool true)]) ρ σ (.loc σ.length) ((σ ++ [MO.dict 0 []]).set σ.length (.dict 1 [(a, .bool true)])) :=
  Ev.dict (ps := [(a, .bool true)]) (.cons (.lit hl) .lit .nil) (get_new ..) (.cons (.inl ⟨ha, by simp⟩) (by rw [sizeLine_eq]; decide) .nil)
 have K : Kp [] σ ((σ ++ [MO.dict 0 []]).set σ.length (.dict 1 [(a, .bool true)])) := (Kp.new [] σ _).setNew (Nat.le_refl _)
 have h := (Op.eqD (C := C) (n := n) (K.get ht) (List.getElem?_set_self (by simp)) (fun e he => by simp [tds] at he; subst he; exact ha) (fun e he => by simp at he; subst he; exact ha) (by simp [tds, isB]) (by simp [isB])).2
 have e1 : allIn [(a, .bool true)] (tds [a]) = true := by simp [tds, allIn, dget, MV.beq_refl]
 rw [e1] at h
 exact ⟨_, .cmp he hd h, K⟩
noncomputable abbrev firstBody : List IS := [
 .setv 88 (.call (.glob 29) []),
 .expr (.meth (.var 88) 137 [.lit (.int 2), .lit (.str 48)]),
 .expr (.meth (.var 88) 120 [.list [.tup [.lit (.str 202), .lit (.str 48)]]]),
 .expr (.meth (.var 88) 169 [.list [.tup [.lit (.str 202), .lit (.str 48)]], .list [.tup [.lit (.str 162), .lit (.int 1)]]]),
 .ite (.or [.cmp .NotEq (.attr (.var 88) 97) (.dict [.lit (.str 48)] [.lit (.bool true)]), .cmp .NotEq (.attr (.attr (.var 88) 214) 121) (.dict [.lit (.int 1)] [.lit (.bool true)])]) [
  .ret (.lit (.bool false))] []]
theorem first_block (H : L1 C) : E2 fun v σ' => Kp [] σ σ' ∧ ∀ {rest : List IS} {fl : Fl} {ρ' : List (Nat × MV)} {σ'' : MH}, Xs C (n + 6) rest (aset ρ 88 v) σ' fl ρ' σ'' → Xs C (n + 6) (firstBody ++ rest) ρ σ fl ρ' σ'' := by
 obtain ⟨υ, c, d, hc₀, K₀, hυ⟩ := law_flow_spec (C := C) (n := n + 1) (σ := σ) H
 have W₀ : FlowAt (freshH υ c d) (freshL υ.length) (freshS υ.length) := fresh_flow
 have hown : ∀ a ∈ own (freshL υ.length) (freshS υ.length), a ∈ ([] : List Nat) ∨ σ.length ≤ a := fun a ha => .inr (by
  simp only [own, freshS_tabs, List.mem_cons, List.not_mem_nil, or_false, freshL] at ha; lia)
 have hZ₀ : Sub (freshS υ.length) ZA := fresh_least ⟨4, by simp [ZA], by simp [ZA]⟩ ⟨5, by simp [ZA], by simp [ZA]⟩
 have hsub₀ := fresh_ginv υ.length
 generalize freshH υ c d = σ₀ at hc₀ K₀ W₀
 generalize hS₀ : freshS υ.length = S₀ at W₀ hown hZ₀
 generalize hL : freshL υ.length = L at W₀ hown
 have hf : L.f = υ.length := by rw [← hL]; rfl
 rw [← hf] at hc₀
 let ρ₁ := aset ρ 88 (.inst 208 L.f)
 have h88 : alook ρ₁ 88 = some (.inst 208 L.f) := alook_aset_same ..
 obtain ⟨σ₁, S₁, hc₁, W₁, K₁, D₁⟩ := make_spec (n := n + 2) (r := 2) (k := 48) H W₀ (by decide) (by decide)
 have hZ₁ : Sub S₁ ZA := D₁.least ZA hZ₀ ⟨by simp [siteT, ZA], 6, by simp [ZA], by simp [ZA]⟩
 have Ka : Kp [] σ₁ (σ₁ ++ [MO.list [sv 48]]) := Kp.new ..
 obtain ⟨σ₂, S₂, hc₂, W₂, K₂, D₂⟩ := leak_spec (n := n + 2) (t := σ₁.length) (ts := [sv 48]) H (W₁.keep Ka) ⟨get_new .., fun v hv => by simp at hv; subst hv; exact .site (by decide)⟩ (by simp)
 have hZ₂ : Sub S₂ ZA := D₂.sub W₁.ok hZ₁ za_out
 have hg₂ : goneT S₂ 48 := (D₂.gone 48).mpr (.inr (.base (by simp)))
 have K₀₂ : Kp (own L S₀) σ₀ σ₂ := chain_Kp (m := σ₀.length) (K₁.trans' (Ka.up)) K₂ D₁.grew (Nat.le_refl _)
 have Kb : Kp [] σ₂ (σ₂ ++ [MO.list [sv 48]]) := Kp.new ..
 have Kc : Kp [] (σ₂ ++ [MO.list [sv 48]]) ((σ₂ ++ [MO.list [sv 48]]) ++ [MO.list [ov 1]]) := Kp.new ..
 obtain ⟨σ₃, S₃, hc₃, W₃, K₃, D₃⟩ := put_spec (n := n) (w := σ₂.length) (us := [sv 48]) (t := (σ₂ ++ [MO.list [sv 48]]).length) (ts := [ov 1]) H ((W₂.keep Kb).keep Kc) ⟨Kc.get (get_new ..), fun v hv => by simp at hv; subst hv; exact .site (by decide)⟩ ⟨get_new .., fun v hv => by simp at hv; subst hv; exact .outer (by decide)⟩ (by simp)
 have hZ₃ : Sub S₃ ZA := D₃.least ZA hZ₂ za_put
 have hg₃ : goneT S₃ 48 := D₃.grew.sub.gone _ hg₂
 have hl₃ : leakT S₃ 1 := ((((D₃.req (sv 48) (by simp)).2.2 48 rfl).2 hg₂) (ov 1) (.base (by simp))).2 1 rfl
 have hgr₂ : Grew σ₀.length S₀ S₂ := D₁.grew.trans D₂.same.grew (m' := σ₁.length) K₁.len
 have K₀₃ : Kp (own L S₀) σ₀ σ₃ := chain_Kp (K₀₂.trans' ((Kb.trans' Kc).up)) K₃ hgr₂ (Nat.le_refl _)
 have eg : S₃.T S₃.gone = [.str 48] := one_only (W₃.ok.rows _ (gone_tab S₃)) hg₃ fun x hx => by
  obtain ⟨k, _, rfl⟩ := W₃.ok.gon x hx
  rw [za_gone.mp (hZ₃.gone k hx)]
 have el : S₃.T S₃.leaks = [.int 1] := one_only (W₃.ok.rows _ (leaks_tab S₃)) hl₃ fun x hx => by
  obtain ⟨k, _, rfl⟩ := W₃.ok.leak x hx
  rw [za_leak.mp (hZ₃.leak k hx)]
 obtain ⟨_, tg⟩ := W₃.tab _ (gone_tab S₃)
 rw [eg] at tg
 obtain ⟨σ₄, t₄, K₄⟩ := table_ne (C := C) (n := n + 6) (ρ := ρ₁) (ev_fgone H W₃ (.var h88)) tg (str_atom (by decide)) (by intro _; nofun)
 have W₄ := W₃.keep K₄
 obtain ⟨_, tl⟩ := W₄.tab _ (leaks_tab S₃)
 rw [el] at tl
 obtain ⟨σ₅, t₅, K₅⟩ := table_ne (C := C) (n := n + 6) (ρ := ρ₁) (ev_leaks H W₄ (ev_summary H W₄ (.var h88))) tl ⟨_, rfl⟩ (by intro _; nofun)
 refine ⟨.inst 208 L.f, σ₅, (K₀.trans (K₀₃.trans' ((K₄.trans' K₅).up)) hown), fun hrest => ?_⟩
 refine .cons (.setv (.call (gl_law_flow H) (ke_law_flow H) .nil hc₀)) (.cons (.expr (ev_methV H W₀ h88 (by decide) (me_EscapeFlow_make H) (.cons .lit (.cons .lit .nil)) hc₁)) (.cons (.expr (ev_methV H W₁ h88 (by decide) (me_EscapeFlow_leak H) (.cons (.list (.cons (.tup (.cons .lit (.cons .lit .nil))) .nil)) .nil) hc₂))
  (.cons (.expr (ev_methV H W₂ h88 (by decide) (me_EscapeFlow_put H) (.cons (.list (.cons (.tup (.cons .lit (.cons .lit .nil))) .nil)) (.cons (.list (.cons (.tup (.cons .lit (.cons .lit .nil))) .nil)) .nil)) hc₃)) (.cons (.ite_f (.or (.orF t₄ (.orF t₅ .nilO))) .nil) hrest))))
end
end Mine
namespace Mine
open PySem PySem.W PyProof.Rows PySem.Calls PySem.Spec PySem.SeqAt
section
variable {C : Cx} {n l D i : Nat} {σ₀ σ σ' : MH} {ρ : List (Nat × MV)} {e oE : IE} {keys : List MV} {es : List (MV × MV)}
noncomputable abbrev newRows (done : List MV) (ps : List Nat) : List (MV × MV) := done.zip (ps.map MV.loc)
structure Filled (σ₀ σ : MH) (D : Nat) (es : List (MV × MV)) (done : List MV) (ps : List Nat) : Prop where
 len : ps.length = done.length
 dict : ∃ ep, σ[D]? = some (.dict ep (es ++ newRows done ps))
 rows : ∀ q ∈ ps, σ₀.length ≤ q ∧ σ[q]? = some (.list [])
 nodup : ps.Nodup
 keep : Kp [D] σ₀ σ
theorem mem_newRows {done : List MV} {ps : List Nat} {p : MV × MV} (h : p ∈ newRows done ps) : p.1 ∈ done := (List.of_mem_zip h).1
theorem dhas_false {es : List (MV × MV)} {k : MV} (h : ∀ p ∈ es, p.1 ≠ k) : dhas es k = false := by
 unfold dhas
 rw [List.any_eq_false]
 intro p hp q
 exact h p hp ((MV.beq_iff).mp q)
theorem zip_snoc {α β : Type} : ∀ (a : List α) (b : List β) (x : α) (y : β), a.length = b.length → (a ++ [x]).zip (b ++ [y]) = a.zip b ++ [(x, y)]
 | [], [], _, _, _ => rfl
 | a :: as, b :: bs, x, y, h => by
  have := zip_snoc as bs x y (by simpa using h)
  simp [this]
 | [], _ :: _, _, _, h => by simp at h
 | _ :: _, [], _, _, h => by simp at h
theorem Filled.step {done : List MV} {ps : List Nat} {k : MV} (F : Filled σ₀ σ D es done ps) (hD : D < σ₀.length) (hf : k.isAtom) (he : ∀ p ∈ es, p.1.isAtom) (hd : ∀ p ∈ done, p.isAtom) (h1 : ∀ p ∈ es, p.1 ≠ k) (h2 : k ∉ done) (hz : es.length + done.length < 100) {j : Nat}
  (ho : ∀ σ', Kp [D] σ₀ σ' → Ev C (n + 1) oE ρ σ' (.loc D) σ') (hj : alook ρ j = some k) :
  ∃ σ', X1 C (n + 1) (.seti oE (.var j) (.list [])) ρ σ .next ρ σ' ∧ Filled σ₀ σ' D es (done ++ [k]) (ps ++ [σ.length]) := by
 obtain ⟨ep, hd0⟩ := F.dict
 have K : Kp [] σ (σ ++ [MO.list []]) := Kp.new ..
 have hdd := K.get hd0
 have hsub : ∀ p ∈ es ++ newRows done ps, p.1 ∈ es.map (·.1) ∨ p.1 ∈ done := fun p hp => by
  rcases List.mem_append.mp hp with h | h
  ·exact .inl (List.mem_map.mpr ⟨p, h, rfl⟩)
  ·exact .inr (mem_newRows h)
 have hat : ∀ p ∈ es ++ newRows done ps, p.1.isAtom := fun p hp => by
  rcases List.mem_append.mp hp with h | h
  ·exact he p h
  ·exact hd _ (mem_newRows h)
 have hset := OpU.setD (C := C) (n := n) (v := .loc σ.length) hdd (.inl ⟨hf, hat⟩) (by rw [sizeLine_eq]; simp [newRows, F.len]; lia)
 have hno : dhas (es ++ newRows done ps) k = false := dhas_false fun p hp e => by
  rcases List.mem_append.mp hp with h | h
  ·exact h1 p h e
  ·exact h2 (e ▸ mem_newRows h)
 have e1 : dsto ep (es ++ newRows done ps) k (.loc σ.length) = .dict (ep + 1) (es ++ newRows (done ++ [k]) (ps ++ [σ.length])) := by
  unfold dsto
  rw [hno]
  simp only [newRows, List.map_append, List.map_cons, List.map_nil]
  rw [zip_snoc done (ps.map MV.loc) k (.loc σ.length) (by simp [F.len])]
  simp
 rw [e1] at hset
 have K' : Kp [D] σ₀ (σ ++ [MO.list []]) := F.keep.trans' (K.up)
 have hDlt : D < (σ ++ [MO.list []]).length := by have := F.keep.len; simp; lia
 refine ⟨_, .seti (.list .nil) (ho _ K') (.var hj) hset, ⟨by simp [F.len], ⟨ep + 1, List.getElem?_set_self hDlt⟩, fun q hq => ?_, ?_, ?_⟩⟩
 ·rcases List.mem_append.mp hq with h | h
  ·obtain ⟨a, b⟩ := F.rows q h
   refine ⟨a, ?_⟩
   rw [List.getElem?_set_ne (by lia)]; exact K.get b
  ·simp at h; subst h
   refine ⟨F.keep.len, ?_⟩
   rw [List.getElem?_set_ne (by have := F.keep.len; lia)]; exact get_new ..
 ·rw [List.nodup_append]
  refine ⟨F.nodup, by simp, fun a ha b hb e => ?_⟩
  simp at hb; subst hb; subst e
  have := (List.getElem?_eq_some_iff.mp (F.rows _ ha).2).1
  lia
 ·refine K'.trans' (Kp.of (Upd.set ..) (by simp))
theorem fill_new (H : L1 C) {dep : MH → Prop} {j : Nat} (hdep : ∀ σ', Kp [D] σ₀ σ' → dep σ') (hD : ∃ ep, σ₀[D]? = some (.dict ep es)) (hk : ∀ k ∈ keys, k.isAtom) (he : ∀ p ∈ es, p.1.isAtom) (h1 : ∀ k ∈ keys, ∀ p ∈ es, p.1 ≠ k) (hn : keys.Nodup) (hz : es.length + keys.length < 100)
  (ho : ∀ ρ' σ', (∀ a, a ≠ j → alook ρ' a = alook ρ a) → Kp [D] σ₀ σ' → Ev C (n + 1) oE ρ' σ' (.loc D) σ') :
  E3 fun ρ' σ' ps => N3 (Loop C (n + 1) (.v j) [.seti oE (.var j) (.list [])] dep keys ρ σ₀ .next ρ' σ') (Filled σ₀ σ' D es keys ps) (∀ a, a ≠ j → alook ρ' a = alook ρ a) := by
 have hDl : D < σ₀.length := by obtain ⟨ep, h⟩ := hD; exact (List.getElem?_eq_some_iff.mp h).1
 let J : List MV → List (Nat × MV) → MH → Prop := fun rem ρ' σ' => E2 fun done ps => N3 (keys = done ++ rem) (Filled σ₀ σ' D es done ps) (∀ a, a ≠ j → alook ρ' a = alook ρ a)
 obtain ⟨ρ', σ', hl, done, ps, e1, F, hρ⟩ : E2 fun ρ' σ' => Loop C (n + 1) (.v j) [.seti oE (.var j) (.list [])] dep keys ρ σ₀ .next ρ' σ' ∧ J [] ρ' σ' := by
  refine Loop.inv J ?_ ?_ keys ρ σ₀ ⟨[], [], rfl, ⟨rfl, hD.imp fun _ h => by simpa [newRows] using h, by simp, by simp, Kp.refl ..⟩, fun _ _ => rfl⟩
  ·rintro k rem ρ₁ σ₁ ⟨done, ps, e1, F, hρ⟩
   refine ⟨hdep _ F.keep, ?_⟩
   have hkk : k ∈ keys := by rw [e1]; simp
   have hρ' : ∀ a, a ≠ j → alook (aset ρ₁ j k) a = alook ρ a := fun a ha => by rw [alook_aset_ne _ _ ha]; exact hρ a ha
   have hnd : k ∉ done := fun h => by
    rw [e1, List.nodup_append] at hn
    exact hn.2.2 k h k (by simp) rfl
   obtain ⟨σ₂, hX, F₂⟩ := F.step (C := C) (n := n) (ρ := aset ρ₁ j k) (oE := oE) (k := k) (j := j) hDl (hk k hkk) he (fun p hp => hk p (by rw [e1]; simp [hp])) (h1 k hkk) hnd (by rw [e1] at hz; simp at hz; lia) (fun σ' K => ho _ σ' hρ' K) (alook_aset_same ..)
   exact ⟨_, .next, _, σ₂, rfl, .cons hX .nil, .inl rfl, done ++ [k], ps ++ [σ₁.length], by rw [e1]; simp, F₂, hρ'⟩
  ·rintro ρ₁ σ₁ ⟨done, ps, e1, F, hρ⟩
   exact hdep _ F.keep
 rw [List.append_nil] at e1
 subst e1
 exact ⟨ρ', σ', ps, hl, F, hρ⟩
end
end Mine
namespace Mine
open PySem PySem.W PyProof.Rows PySem.Calls PySem.Spec PySem.SeqAt
set_option genInjectivity false
structure BN where
 l0 : Nat
 l1 : Nat
 a1 : Nat
 a2 : Nat
 a3 : Nat
 a4 : Nat
 q1 : Nat
 q2 : Nat
 q3 : Nat
 q4 : Nat
 r1 : Nat
 r2 : Nat
 r3 : Nat
 r4 : Nat
noncomputable def BN.A (N : BN) : List Nat := [N.a1, N.a2, N.a3, N.a4]
noncomputable def BN.B (N : BN) : List Nat := [N.q1, N.q2, N.q3, N.q4]
noncomputable def BN.D (N : BN) : List Nat := [N.r1, N.r2, N.r3, N.r4]
noncomputable def BN.O (N : BN) : List Nat := [N.l0, N.l1]
noncomputable def bookS (N : BN) : TS :=
 { held := [(0, N.l0), (1, N.l1), (2, N.q1), (3, N.q2), (4, N.q3), (5, N.q4)], inside := [(48, N.r1), (53, N.r2), (59, N.r3), (76, N.r4)], sites := N.a1, gone := N.a2, leaks := N.a3, kept := N.a4, T := fun x => if x = N.l0 then [ov 0] else if x = N.l1 then [ov 1] else [] }
theorem len4 {α : Type} : ∀ {l : List α}, l.length = 4 → E4 fun a b c d => l = [a, b, c, d]
 | [a, b, c, d], _ => ⟨a, b, c, d, rfl⟩
 | [], h => by simp at h
 | [_], h => by simp at h
 | [_, _], h => by simp at h
 | [_, _, _], h => by simp at h
 | _ :: _ :: _ :: _ :: _ :: _, h => by simp at h
section
variable {N : BN} {x : Nat}
theorem bookS_tabs : (bookS N).tabs = N.A ++ (N.O ++ (N.B ++ N.D)) := rfl
theorem bookS_rest (h0 : x ≠ N.l0) (h1 : x ≠ N.l1) : (bookS N).T x = [] := by unfold bookS; exact (if_neg h0).trans (if_neg h1)
theorem bookS_0 : (bookS N).T N.l0 = [ov 0] := if_pos rfl
theorem bookS_1 (h : N.l1 ≠ N.l0) : (bookS N).T N.l1 = [ov 1] := (if_neg h).trans (if_pos rfl)
noncomputable def BN.Ne (N : BN) : Prop := ∀ x, x ∈ N.A ∨ x ∈ N.B ∨ x ∈ N.D → x ≠ N.l0 ∧ x ≠ N.l1
theorem bookS_no (hs : N.Ne) (h : x ∈ N.A ∨ x ∈ N.B ∨ x ∈ N.D) : (bookS N).T x = [] := bookS_rest (hs x h).1 (hs x h).2
theorem bookS_off (hs : N.Ne) (h : x ∈ N.A ∨ x ∈ N.B ∨ x ∈ N.D) {v : MV} (hv : v ∈ (bookS N).T x) : False := by rw [bookS_no hs h] at hv; cases hv
theorem mem1 {α : Type} {a b c d : α} : a ∈ [a, b, c, d] := .head _
theorem mem2 {α : Type} {a b c d : α} : b ∈ [a, b, c, d] := .tail _ (.head _)
theorem mem3 {α : Type} {a b c d : α} : c ∈ [a, b, c, d] := .tail _ (.tail _ (.head _))
theorem mem4 {α : Type} {a b c d : α} : d ∈ [a, b, c, d] := .tail _ (.tail _ (.tail _ (.head _)))
theorem all6 {α : Type} {P : α → Prop} {a b c d e f : α} (h1 : P a) (h2 : P b) (h3 : P c) (h4 : P d) (h5 : P e) (h6 : P f) : ∀ x, x ∈ [a, b, c, d, e, f] → P x := by
 intro x h
 simp only [List.mem_cons, List.not_mem_nil, or_false] at h
 rcases h with rfl | rfl | rfl | rfl | rfl | rfl <;> assumption
theorem all4m {α : Type} {P : α → Prop} {a b c d : α} (h1 : P a) (h2 : P b) (h3 : P c) (h4 : P d) : ∀ x, x ∈ [a, b, c, d] → P x := by
 intro x h
 simp only [List.mem_cons, List.not_mem_nil, or_false] at h
 rcases h with rfl | rfl | rfl | rfl <;> assumption
theorem book_least {Z : TS} (hs : N.Ne) (hne : N.l1 ≠ N.l0) (h0 : heldT Z 0 (ov 0)) (h1 : heldT Z 1 (ov 1)) : Sub (bookS N) Z := by
 have o {x : Nat} (h : x ∈ N.A ∨ x ∈ N.B ∨ x ∈ N.D) {v : MV} {P : Prop} (hv : v ∈ (bookS N).T x) : P := (bookS_off hs h hv).elim
 refine ⟨fun r v ⟨l, a, b⟩ => ?_, fun k v ⟨l, a, b⟩ => ?_, fun k h => o (.inl mem2) h, fun k h => o (.inl mem1) h, fun _ h => o (.inl mem3) h, fun i _ h => o (.inl mem4) h⟩
 ·exact all6 (P := fun p : Int × Nat => v ∈ (bookS N).T p.2 → heldT Z p.1 v) (fun b => by rw [bookS_0] at b; cases List.mem_singleton.mp b; exact h0) (fun b => by rw [bookS_1 hne] at b; cases List.mem_singleton.mp b; exact h1)
   (o (.inr (.inl mem1))) (o (.inr (.inl mem2))) (o (.inr (.inl mem3))) (o (.inr (.inl mem4))) (r, l) a b
 ·exact all4m (P := fun p : Nat × Nat => v ∈ (bookS N).T p.2 → insT Z p.1 v) (o (.inr (.inr mem1))) (o (.inr (.inr mem2))) (o (.inr (.inr mem3))) (o (.inr (.inr mem4))) (k, l) a b
theorem bookS_len (x : Nat) : (bookS N).T x = [ov 0] ∨ (bookS N).T x = [ov 1] ∨ (bookS N).T x = [] := by
 unfold bookS
 dsimp only
 split
 ·exact .inl rfl
 ·split
  ·exact .inr (.inl rfl)
  ·exact .inr (.inr rfl)
theorem nodup_one {α : Type} {a : α} : [a].Nodup := List.nodup_cons.mpr ⟨List.not_mem_nil, List.nodup_nil⟩
theorem book_tok (hn : (bookS N).tabs.Nodup) (hs : N.Ne) (hne : N.l1 ≠ N.l0) : TOK (bookS N) := by
 refine ⟨hn, (by decide : [(0 : Int), 1, 2, 3, 4, 5].Nodup), (by decide : [48, 53, 59, 76].Nodup), fun e he => (by decide : ∀ r ∈ [(0 : Int), 1, 2, 3, 4, 5], 0 ≤ r ∧ r < 6) e.1 (List.mem_map_of_mem (f := fun e : Int × Nat => e.1) he), fun e he => List.mem_map_of_mem (f := fun e : Nat × Nat => e.1) he, fun t _ => ?_, fun t _ v hv => ?_,
  fun v h => (bookS_off hs (.inl mem1) h).elim, fun v h => (bookS_off hs (.inl mem2) h).elim, fun v h => (bookS_off hs (.inl mem3) h).elim, fun v h => (bookS_off hs (.inl mem4) h).elim⟩
 ·rcases bookS_len (N := N) t with q | q | q <;> rw [q]
  ·exact nodup_one
  ·exact nodup_one
  ·exact List.nodup_nil
 ·rcases bookS_len (N := N) t with q | q | q <;> rw [q] at hv
  ·cases List.mem_singleton.mp hv; exact .outer (by simp)
  ·cases List.mem_singleton.mp hv; exact .outer (by simp)
  ·cases hv
theorem nodup_app {α : Type} {as bs : List α} (ha : as.Nodup) (hb : bs.Nodup) (h : ∀ a, a ∈ as → ∀ b, b ∈ bs → a ≠ b) : (as ++ bs).Nodup := List.nodup_append.mpr ⟨ha, hb, h⟩
structure BookEnd (b h i : Nat) (σ σ' : MH) (N : BN) : Prop where
 at_ : BookAt σ' ⟨b, h, i⟩ (bookS N)
 tabs : ∀ t ∈ (bookS N).tabs, t = N.l0 ∨ t = N.l1 ∨ σ.length ≤ t
 held0 : heldT (bookS N) 0 (ov 0)
 held1 : heldT (bookS N) 1 (ov 1)
 least : ∀ Z, heldT Z 0 (ov 0) → heldT Z 1 (ov 1) → Sub (bookS N) Z
theorem book_end {b h i u w : Nat} {σ σ' : MH} (hne : N.l1 ≠ N.l0) (rA : ∀ x ∈ N.A, σ.length < x ∧ x < u ∧ σ'[x]? = some (.list [])) (rB : ∀ x ∈ N.B, u ≤ x ∧ x < w ∧ σ'[x]? = some (.list [])) (rD : ∀ x ∈ N.D, w < x ∧ σ'[x]? = some (.list []))
  (nA : N.A.Nodup) (nB : N.B.Nodup) (nD : N.D.Nodup) (h0 : N.l0 < σ.length) (h1 : N.l1 < σ.length) (hu : σ.length < u) (huw : u ≤ w)
  (bk : ∃ ep, σ'[b]? = some (.dict ep [(.str 101, .loc h), (.str 104, .loc i), (.str 203, .loc N.a1), (.str 97, .loc N.a2), (.str 121, .loc N.a3), (.str 113, .loc N.a4)]))
  (bh : ∃ ep, σ'[h]? = some (.dict ep [(.int 0, .loc N.l0), (.int 1, .loc N.l1), (.int 2, .loc N.q1), (.int 3, .loc N.q2), (.int 4, .loc N.q3), (.int 5, .loc N.q4)]))
  (bi : ∃ ep, σ'[i]? = some (.dict ep [(.str 48, .loc N.r1), (.str 53, .loc N.r2), (.str 59, .loc N.r3), (.str 76, .loc N.r4)])) (g0 : σ'[N.l0]? = some (.list [ov 0])) (g1 : σ'[N.l1]? = some (.list [ov 1])) : BookEnd b h i σ σ' N := by
 have far : ∀ x, x ∈ N.A ∨ x ∈ N.B ∨ x ∈ N.D → σ.length < x ∧ σ'[x]? = some (.list []) := fun x hx => by
  rcases hx with q | q | q
  ·exact ⟨(rA x q).1, (rA x q).2.2⟩
  ·exact ⟨Nat.lt_of_lt_of_le hu (rB x q).1, (rB x q).2.2⟩
  ·exact ⟨Nat.lt_of_lt_of_le hu (Nat.le_trans huw (Nat.le_of_lt (rD x q).1)), (rD x q).2⟩
 have hs : N.Ne := fun x hx => ⟨Nat.ne_of_gt (Nat.lt_trans h0 (far x hx).1), Nat.ne_of_gt (Nat.lt_trans h1 (far x hx).1)⟩
 have ho : ∀ x ∈ N.O, x < σ.length := fun x hx => by
  cases hx with
  | head => exact h0
  | tail _ hx => cases hx with
   | head => exact h1
   | tail _ hx => cases hx
 have hn : (N.A ++ (N.O ++ (N.B ++ N.D))).Nodup := nodup_app nA (nodup_app (List.nodup_cons.mpr ⟨fun h => hne (List.mem_singleton.mp h).symm, nodup_one⟩) (nodup_app nB nD fun a ha c hc => Nat.ne_of_lt (Nat.lt_trans (rB a ha).2.1 (rD c hc).1)) fun a ha c hc => Nat.ne_of_lt (Nat.lt_trans (ho a ha) (far c (.inr (List.mem_append.mp hc))).1)) fun a ha c hc => by
  rcases List.mem_append.mp hc with q | q
  ·exact Nat.ne_of_gt (Nat.lt_trans (ho c q) (rA a ha).1)
  ·rcases List.mem_append.mp q with q | q
   ·exact Nat.ne_of_lt (Nat.lt_of_lt_of_le (rA a ha).2.1 (rB c q).1)
   ·exact Nat.ne_of_lt (Nat.lt_of_lt_of_le (rA a ha).2.1 (Nat.le_trans huw (Nat.le_of_lt (rD c q).1)))
 have ht : ∀ t ∈ N.A ++ (N.O ++ (N.B ++ N.D)), (t ∈ N.A ∨ t ∈ N.B ∨ t ∈ N.D) ∨ t = N.l0 ∨ t = N.l1 := fun t ht => by
  rcases List.mem_append.mp ht with q | q
  ·exact .inl (.inl q)
  ·rcases List.mem_append.mp q with q | q
   ·cases q with
    | head => exact .inr (.inl rfl)
    | tail _ q => exact .inr (.inr (List.mem_singleton.mp q))
   ·exact .inl (.inr (List.mem_append.mp q))
 have hk4 : ∀ k, k ∈ [48, 53, 59, 76] → ∃ l, (k, l) ∈ (bookS N).inside := all4m ⟨_, mem1⟩ ⟨_, mem2⟩ ⟨_, mem3⟩ ⟨_, mem4⟩
 have hr6 : ∀ r : Int, r ∈ [(0 : Int), 1, 2, 3, 4, 5] → ∃ l, (r, l) ∈ (bookS N).held := all6 ⟨_, .head _⟩ ⟨_, .tail _ (.head _)⟩ ⟨_, .tail _ (.tail _ (.head _))⟩ ⟨_, .tail _ (.tail _ (.tail _ (.head _)))⟩ ⟨_, .tail _ (.tail _ (.tail _ (.tail _ (.head _))))⟩ ⟨_, .tail _ (.tail _ (.tail _ (.tail _ (.tail _ (.head _)))))⟩
 refine ⟨⟨book_tok hn hs hne, bk, bh, bi, fun r hr0 hr1 => hr6 r ?_, hk4, fun t htt => ?_⟩, fun t htt => ?_, ⟨N.l0, .head _, by rw [bookS_0]; exact .head _⟩, ⟨N.l1, .tail _ (.head _), by rw [bookS_1 hne]; exact .head _⟩, fun Z z0 z1 => book_least hs hne z0 z1⟩
 ·have : r = 0 ∨ r = 1 ∨ r = 2 ∨ r = 3 ∨ r = 4 ∨ r = 5 := by lia
  simpa only [List.mem_cons, List.not_mem_nil, or_false] using this
 ·rcases ht t htt with q | rfl | rfl
  ·rw [bookS_no hs q]; exact (far t q).2
  ·rw [bookS_0]; exact g0
  ·rw [bookS_1 hne]; exact g1
 ·rcases ht t htt with q | q | q
  ·exact .inr (.inr (Nat.le_of_lt (far t q).1))
  ·exact .inl q
  ·exact .inr (.inl q)
end
section
variable {C : Cx} {n l b h i l0 l1 eb eh ei : Nat} {σ₀ σ σ' : MH} {ρ : List (Nat × MV)} {e : IE}
noncomputable abbrev bookFill : List IS := [
 .for (.v 233) (.list [.lit (.str 203), .lit (.str 97), .lit (.str 121), .lit (.str 113)]) [
  .seti (.var 57) (.var 233) (.list [])],
 .for (.v 177) (.call (.glob 171) [.lit (.int 2), .lit (.int 6)]) [
  .seti (.sub (.var 57) (.lit (.str 101))) (.var 177) (.list [])],
 .for (.v 202) (.list [.lit (.str 48), .lit (.str 53), .lit (.str 59), .lit (.str 76)]) [
  .seti (.sub (.var 57) (.lit (.str 104))) (.var 202) (.list [])]]
theorem ne1 {α : Type} {x a : α} (h : x ≠ a) : x ∉ [a] := fun q => h (List.mem_singleton.mp q)
theorem ne3 {α : Type} {x a b c : α} (h1 : x ≠ a) (h2 : x ≠ b) (h3 : x ≠ c) : x ∉ [a, b, c] := by
 intro q
 cases q with
 | head => exact h1 rfl
 | tail _ q => cases q with
  | head => exact h2 rfl
  | tail _ q => exact h3 (List.mem_singleton.mp q)
theorem atom_str {k : Nat} (h : k < tabN) : (MV.str k).isAtom := str_atom h
theorem book_build (H : L1 C) (hb : σ[b]? = some (.dict eb [(.str 101, .loc h), (.str 104, .loc i)])) (hh : σ[h]? = some (.dict eh [(.int 0, .loc l0), (.int 1, .loc l1)])) (hi : σ[i]? = some (.dict ei [])) (h0 : σ[l0]? = some (.list [ov 0])) (h1 : σ[l1]? = some (.list [ov 1])) (hne : l0 ≠ l1) (h57 : alook ρ 57 = some (.loc b)) :
  E3 fun ρ' σ' S => N8 ((∀ {rest : List IS} {fl : Fl} {ρ'' : List (Nat × MV)} {σ'' : MH}, Xs C (n + 1) rest ρ' σ' fl ρ'' σ'' → Xs C (n + 1) (bookFill ++ rest) ρ σ fl ρ'' σ'')) (BookAt σ' ⟨b, h, i⟩ S) (Kp [b, h, i] σ σ') ((∀ t ∈ S.tabs, t = l0 ∨ t = l1 ∨ σ.length ≤ t)) ((∀ a, a ≠ 233 → a ≠ 177 → a ≠ 202 → alook ρ' a = alook ρ a)) (heldT S 0 (ov 0)) (heldT S 1 (ov 1)) (∀ Z, heldT Z 0 (ov 0) → heldT Z 1 (ov 1) → Sub S Z) := by
 have nbh : b ≠ h := fun e => by rw [e, hh] at hb; simp at hb
 have nbi : b ≠ i := fun e => by rw [e, hi] at hb; simp at hb
 have nhi : h ≠ i := fun e => by rw [e, hi] at hh; simp at hh
 have n0b : l0 ≠ b := fun e => by rw [e, hb] at h0; cases h0
 have n0h : l0 ≠ h := fun e => by rw [e, hh] at h0; cases h0
 have n0i : l0 ≠ i := fun e => by rw [e, hi] at h0; cases h0
 have n1b : l1 ≠ b := fun e => by rw [e, hb] at h1; cases h1
 have n1h : l1 ≠ h := fun e => by rw [e, hh] at h1; cases h1
 have n1i : l1 ≠ i := fun e => by rw [e, hi] at h1; cases h1
 have lt : ∀ {x : Nat} {o : MO}, σ[x]? = some o → x < σ.length := fun h => (List.getElem?_eq_some_iff.mp h).1
 have hbl := lt hb; have hhl := lt hh; have hil := lt hi; have h0l := lt h0; have h1l := lt h1
 let names : List MV := [.str 203, .str 97, .str 121, .str 113]
 have KA : Kp [] σ (σ ++ [MO.list names]) := Kp.new ..
 obtain ⟨ρA, σA, psA, lA, FA, rA⟩ := fill_new (C := C) (n := n) (ρ := ρ) (oE := .var 57) (keys := names) (j := 233) (D := b) (dep := fun σ' => σ'[σ.length]? = some (.list names)) H (fun σ' K => K.keep _ _ (by simp; lia) (get_new ..)) ⟨eb, KA.get hb⟩
  (fun k hk => by simp [names] at hk; rcases hk with rfl | rfl | rfl | rfl <;> exact atom_str (by decide)) (fun p hp => by simp at hp; rcases hp with rfl | rfl <;> exact atom_str (by decide)) (fun k hk p hp => by simp [names] at hk; simp at hp; rcases hk with rfl | rfl | rfl | rfl <;> rcases hp with rfl | rfl <;> simp) (by simp [names]) (by simp [names])
  (fun ρ' σ' hρ _ => .var (by rw [hρ 57 (by decide)]; exact h57))
 obtain ⟨a1, a2, a3, a4, rfl⟩ := len4 (show psA.length = 4 from FA.len)
 have hXA : X1 C (n + 1) (.for (.v 233) (.list [.lit (.str 203), .lit (.str 97), .lit (.str 121), .lit (.str 113)]) [.seti (.var 57) (.var 233) (.list [])]) ρ σ .next ρA σA := .for (.of (.list (.cons .lit (.cons .lit (.cons .lit (.cons .lit .nil))))) (.list (get_new ..))) lA
 obtain ⟨ebA, dA⟩ := FA.dict
 have dA' : σA[b]? = some (.dict ebA [(.str 101, .loc h), (.str 104, .loc i), (.str 203, .loc a1), (.str 97, .loc a2), (.str 121, .loc a3), (.str 113, .loc a4)]) := dA
 have K₁ : Kp [b] σ σA := (KA.up).trans' FA.keep
 obtain ⟨ρB, σB, psB, lB, FB, rB⟩ := fill_new (C := C) (n := n) (ρ := ρA) (σ₀ := σA) (oE := .sub (.var 57) (.lit (.str 101))) (keys := rangeMV 2 6) (j := 177) (D := h) (dep := fun _ => True) H (fun _ _ => trivial) ⟨eh, K₁.keep _ _ (by simpa using Ne.symm nbh) hh⟩
  (fun k hk => by
   simp only [rangeMV, List.mem_map] at hk
   obtain ⟨_, _, rfl⟩ := hk; exact ⟨_, rfl⟩) (fun p hp => by simp at hp; rcases hp with rfl | rfl <;> exact ⟨_, rfl⟩) (fun k hk p hp => by
   simp only [rangeMV, List.mem_map] at hk
   obtain ⟨j, _, rfl⟩ := hk
   simp at hp; rcases hp with rfl | rfl <;> simp <;> lia) (show [MV.int 2, .int 3, .int 4, .int 5].Nodup by simp) (by show 2 + 4 < 100; decide)
  (fun ρ' σ' hρ K => by
   have hb' := K.keep _ _ (by simpa using nbh) dA'
   exact .sub (.var (by rw [hρ 57 (by decide), rA 57 (by decide)]; exact h57)) .lit (by rw [kind_dict hb']; decide) (Op.itemD hb' (bk_fits (by decide)) rfl))
 obtain ⟨q1, q2, q3, q4, rfl⟩ := len4 (show psB.length = 4 from FB.len)
 have hXB : X1 C (n + 1) (.for (.v 177) (.call (.glob 171) [.lit (.int 2), .lit (.int 6)]) [.seti (.sub (.var 57) (.lit (.str 101))) (.var 177) (.list [])]) ρA σA .next ρB σB := .for (.range2 (gl_range H) (.cons .lit (.cons .lit .nil)) (by decide) (by decide) (by decide)) lB
 obtain ⟨ehB, dB⟩ := FB.dict
 have dB' : σB[h]? = some (.dict ehB [(.int 0, .loc l0), (.int 1, .loc l1), (.int 2, .loc q1), (.int 3, .loc q2), (.int 4, .loc q3), (.int 5, .loc q4)]) := dB
 have dbB := FB.keep.keep _ _ (by simpa using nbh) dA'
 have KC : Kp [] σB (σB ++ [MO.list sitesL]) := Kp.new ..
 have hiB : σB[i]? = some (.dict ei []) := FB.keep.keep _ _ (by simpa using Ne.symm nhi) (K₁.keep _ _ (by simpa using Ne.symm nbi) hi)
 have hlAB : σA.length ≤ σB.length := FB.keep.len
 have hlA : σ.length + 1 ≤ σA.length := by have := FA.keep.len; simpa using this
 obtain ⟨ρC, σC, psC, lC, FC, rC⟩ := fill_new (C := C) (n := n) (ρ := ρB) (oE := .sub (.var 57) (.lit (.str 104))) (keys := sitesL) (j := 202) (D := i) (dep := fun σ' => σ'[σB.length]? = some (.list sitesL)) H (fun σ' K => K.keep _ _ (by simp; lia) (get_new ..)) ⟨ei, KC.get hiB⟩
  (fun k hk => by simp at hk; rcases hk with rfl | rfl | rfl | rfl <;> exact atom_str (by decide)) (by simp) (by simp) (by simp) (by simp)
  (fun ρ' σ' hρ K => by
   have hb' := K.keep _ _ (by simpa using nbi) (KC.get dbB)
   exact .sub (.var (by rw [hρ 57 (by decide), rB 57 (by decide), rA 57 (by decide)]; exact h57)) .lit (by rw [kind_dict hb']; decide) (Op.itemD hb' (bk_fits (by decide)) rfl))
 obtain ⟨r1, r2, r3, r4, rfl⟩ := len4 (show psC.length = 4 from FC.len)
 have hXC : X1 C (n + 1) (.for (.v 202) (.list [.lit (.str 48), .lit (.str 53), .lit (.str 59), .lit (.str 76)]) [.seti (.sub (.var 57) (.lit (.str 104))) (.var 202) (.list [])]) ρB σB .next ρC σC := .for (.of ev_sitesL (.list (get_new ..))) lC
 obtain ⟨eiC, dC⟩ := FC.dict
 have dC' : σC[i]? = some (.dict eiC [(.str 48, .loc r1), (.str 53, .loc r2), (.str 59, .loc r3), (.str 76, .loc r4)]) := dC
 have KC' : Kp [i] σB σC := (KC.up).trans' FC.keep
 have KBC : Kp [h, i] σA σC := (FB.keep.weak (by simp)).trans' (KC'.weak (by simp))
 have K : Kp [b, h, i] σ σC := (K₁.weak (by simp)).trans' (KBC.weak (by simp))
 have rowA : ∀ x ∈ [a1, a2, a3, a4], σ.length < x ∧ x < σA.length ∧ σC[x]? = some (.list []) := fun x hx => by
  obtain ⟨p1, p2⟩ := FA.rows x hx
  simp at p1
  exact ⟨by lia, (List.getElem?_eq_some_iff.mp p2).1, KBC.keep _ _ (by simp; lia) p2⟩
 have rowB : ∀ x ∈ [q1, q2, q3, q4], σA.length ≤ x ∧ x < σB.length ∧ σC[x]? = some (.list []) := fun x hx => by
  obtain ⟨p1, p2⟩ := FB.rows x hx
  exact ⟨p1, (List.getElem?_eq_some_iff.mp p2).1, KC'.keep _ _ (by simp; lia) p2⟩
 have rowC : ∀ x ∈ [r1, r2, r3, r4], σB.length < x ∧ σC[x]? = some (.list []) := fun x hx => by
  obtain ⟨p1, p2⟩ := FC.rows x hx
  simp at p1
  exact ⟨by lia, p2⟩
 have BE : BookEnd b h i σ σC ⟨l0, l1, a1, a2, a3, a4, q1, q2, q3, q4, r1, r2, r3, r4⟩ := book_end (Ne.symm hne) rowA rowB rowC FA.nodup FB.nodup FC.nodup h0l h1l hlA hlAB ⟨ebA, KC'.keep _ _ (ne1 nbi) dbB⟩ ⟨ehB, KC'.keep _ _ (ne1 nhi) dB'⟩ ⟨eiC, dC'⟩ (K.keep _ _ (ne3 n0b n0h n0i) h0) (K.keep _ _ (ne3 n1b n1h n1i) h1)
 exact ⟨ρC, σC, bookS _, fun hrest => .cons hXA (.cons hXB (.cons hXC hrest)), BE.at_, K, BE.tabs, fun a h1 h2 h3 => by rw [rC a h3, rB a h2, rA a h1], BE.held0, BE.held1, BE.least⟩
end
end Mine
namespace Mine
open PySem PySem.W PyProof.Rows PySem.Calls PySem.Spec PySem.SeqAt
section
variable {C : Cx} {n l p : Nat} {σ₀ σ σ' : MH} {ρ : List (Nat × MV)} {e : IE}
noncomputable abbrev bookE : IE := .dict [.lit (.str 101), .lit (.str 104)] [.dict [.lit (.int 0), .lit (.int 1)] [.list [.tup [.lit (.str 162), .lit (.int 0)]], .list [.tup [.lit (.str 162), .lit (.int 1)]]], .dict [] []]
theorem ev_book : E9 fun b h i l0 l1 eb eh ei σ' => N13 (Ev C n bookE ρ σ (.loc b) σ') (Kp [] σ σ') (σ'[b]? = some (.dict eb [(.str 101, .loc h), (.str 104, .loc i)])) (σ'[h]? = some (.dict eh [(.int 0, .loc l0), (.int 1, .loc l1)])) (σ'[i]? = some (.dict ei [])) (σ'[l0]? = some (.list [ov 0])) (σ'[l1]? = some (.list [ov 1])) (l0 ≠ l1) (σ.length ≤ b) (σ.length ≤ h) (σ.length ≤ i) (σ.length ≤ l0) (σ.length ≤ l1) := by
 let A := σ ++ [MO.dict 0 []]
 let A1 := A ++ [MO.dict 0 []]
 let A2 := A1 ++ [MO.list [ov 0]]
 let A3 := A2 ++ [MO.list [ov 1]]
 have lA : A.length = σ.length + 1 := by simp [A]
 have lA1 : A1.length = σ.length + 2 := by simp [A1, lA]
 have lA2 : A2.length = σ.length + 3 := by simp [A2, lA1]
 have lA3 : A3.length = σ.length + 4 := by simp [A3, lA2]
 let hd : MO := .dict 2 [(.int 0, .loc A1.length), (.int 1, .loc A2.length)]
 let B := A3.set A.length hd
 have lB : B.length = σ.length + 4 := by simp [B, lA3]
 have hin : Ev C n (.dict [.lit (.int 0), .lit (.int 1)] [.list [.tup [.lit (.str 162), .lit (.int 0)]], .list [.tup [.lit (.str 162), .lit (.int 1)]]]) ρ A (.loc A.length) B :=
  Ev.dict (σ₁ := A3) (o := hd) (ps := [(.int 0, .loc A1.length), (.int 1, .loc A2.length)]) (.cons .lit (.list (vs := [ov 0]) (.cons (.tup (.cons .lit (.cons .lit .nil))) .nil)) (.cons .lit (.list (vs := [ov 1]) (.cons (.tup (.cons .lit (.cons .lit .nil))) .nil)) .nil))
   (((Kp.new [] A1 _).trans' (Kp.new ..)).get (get_new ..)) (.cons (.inl ⟨⟨_, rfl⟩, by simp⟩) (by rw [sizeLine_eq]; decide) (.cons (ep := 1) (es := [(.int 0, .loc A1.length)]) (.inl ⟨⟨_, rfl⟩, fun e he => by simp at he; subst he; exact ⟨_, rfl⟩⟩) (by rw [sizeLine_eq]; simp) .nil))
 let D := (B ++ [MO.dict 0 []]).set σ.length (.dict 2 [(.str 101, .loc A.length), (.str 104, .loc B.length)])
 have KA : Kp [] A B := (((Kp.new [] A _).trans' (Kp.new [] A1 _)).trans' (Kp.new [] A2 _)).setNew (Nat.le_refl _)
 have KB : Kp [] B (B ++ [MO.dict 0 []]) := Kp.new ..
 have hout : Ev C n bookE ρ σ (.loc σ.length) D :=
  Ev.dict (σ₁ := B ++ [MO.dict 0 []]) (ps := [(.str 101, .loc A.length), (.str 104, .loc B.length)]) (.cons .lit hin (.cons .lit .dict0 .nil)) ((KA.trans' KB).get (get_new ..)) (.cons (.inl ⟨str_atom (by decide), by simp⟩) (by rw [sizeLine_eq]; decide) (.cons (ep := 1) (es := [(.str 101, .loc A.length)]) (.inl ⟨str_atom (by decide), fun e he => by simp at he; subst he; exact str_atom (by decide)⟩) (by rw [sizeLine_eq]; simp) .nil))
 have get : ∀ {x : Nat} {o : MO}, x ≠ σ.length → (B ++ [MO.dict 0 []])[x]? = some o → D[x]? = some o := fun hx h => by rw [List.getElem?_set_ne (Ne.symm hx)]; exact h
 have getB : ∀ {x : Nat} {o : MO}, x ≠ σ.length → x ≠ A.length → A3[x]? = some o → D[x]? = some o := fun h1 h2 h => get h1 (KB.get (by rw [List.getElem?_set_ne (Ne.symm h2)]; exact h))
 refine ⟨σ.length, A.length, B.length, A1.length, A2.length, 2, 2, 0, D, hout, ((Kp.new [] σ _).trans' (KA.trans' KB)).setNew (Nat.le_refl _), List.getElem?_set_self (by simp [lB]; lia), get (by lia) (KB.get (List.getElem?_set_self (by lia))), get (by lia) (get_new ..), getB (by lia) (by lia) ((Kp.new [] A2 _).get (get_new ..)), getB (by lia) (by lia) (get_new ..), by lia, Nat.le_refl _, by lia, by lia, by lia, by lia⟩
theorem FlowAt.ltm {L : FL} {S : TS} (W : FlowAt σ L S) : L.lm < σ.length := by
 obtain ⟨as, a1, _⟩ := W.sm; exact (List.getElem?_eq_some_iff.mp a1).1
theorem law_xs (H : L1 C) {ns : List Int} {l : Addr} (hS : ScriptAt C l ns) : E2 fun ρ' σ' => Xs C (n + 7) p_law [(197, .raw (.ref l))] σ (.ret (.bool true)) ρ' σ' := by
 obtain ⟨v, σ₁, K₁, cont⟩ := first_block (C := C) (n := n + 1) (σ := σ) (ρ := [(197, .raw (.ref l))]) H
 obtain ⟨σ₂, p, hc₂, K₂, hp, hs₂⟩ := law_pool_spec (C := C) (n := n + 6) (σ := σ₁) H hS
 obtain ⟨υ, c, d, hc₃, K₃, hυ⟩ := law_flow_spec (C := C) (n := n + 2) (σ := σ₂) H
 have W₃ : FlowAt (freshH υ c d) (freshL υ.length) (freshS υ.length) := fresh_flow
 have hF0 := @fresh_least υ.length
 have hG0 := fresh_ginv υ.length
 have hF00 : heldT (freshS υ.length) 0 (ov 0) ∧ heldT (freshS υ.length) 1 (ov 1) := ⟨fresh_held.mpr (.inl ⟨rfl, rfl⟩), fresh_held.mpr (.inr ⟨rfl, rfl⟩)⟩
 have hf : (freshL υ.length).f = υ.length := rfl
 generalize freshH υ c d = σ₃ at hc₃ K₃ W₃
 generalize freshS υ.length = F₀ at W₃ hF0 hG0 hF00
 rw [← hf] at hc₃
 generalize freshL υ.length = L at hc₃ W₃
 have hs₃ := hs₂.keep K₃ (by simp)
 let ρ₁ : List (Nat × MV) := [(197, .raw (.ref l)), (88, v)]
 let ρ₂ : List (Nat × MV) := [(197, .raw (.ref l)), (88, .inst 208 L.f), (208, .loc p)]
 have hX₂ : X1 C (n + 7) (.sett [208, 88] (.tup [.call (.glob 36) [.var 197], .call (.glob 29) []])) ρ₁ σ₁ .next ρ₂ σ₃ :=
  .sett (.tup (.cons (.call (gl_law_pool H) (ke_law_pool H) (.cons (.var rfl) .nil) hc₂) (.cons (.call (gl_law_flow H) (ke_law_flow H) .nil hc₃) .nil)))
 obtain ⟨b, h, i, l0, l1, eb, eh, ei, σ₄, he₄, K₄, hb, hh, hi, h0, h1, hne, gb, gh, gi, g0, g1⟩ := ev_book (C := C) (n := n + 7) (ρ := ρ₂) (σ := σ₃)
 have hpl := hs₃.lt
 have hs₄ := hs₃.keep K₄ (by simp)
 obtain ⟨σ₅, q, ds, hc₅, K₅, hs₅, hq5, hq, hds⟩ := law_deeds_spec (n := n + 4) H hs₄
 have W₄ := W₃.keep K₄
 have W₅ := W₄.keepS hs₄ K₅
 have np : ∀ {x : Nat}, σ₃.length ≤ x → x ∉ [p] := fun hx => by simp; lia
 let ρ₃ : List (Nat × MV) := [(197, .raw (.ref l)), (88, .inst 208 L.f), (208, .loc p), (57, .loc b), (78, .loc q)]
 have hX₅ : X1 C (n + 7) (.sett [57, 78] (.tup [bookE, .call (.glob 26) [.var 208]])) ρ₂ σ₃ .next ρ₃ σ₅ :=
  .sett (.tup (.cons he₄ (.cons (.call (gl_law_deeds H) (ke_law_deeds H) (.cons (.var rfl) .nil) hc₅) .nil)))
 have hlt : ∀ {x : Nat} {o : MO}, σ₄[x]? = some o → x < σ₄.length := fun h => (List.getElem?_eq_some_iff.mp h).1
 have hb5 := K₅.keep _ _ (np gb) hb
 have hh5 := K₅.keep _ _ (np gh) hh
 have hi5 := K₅.keep _ _ (np gi) hi
 obtain ⟨ρ₆, σ₆, S₀, hX₆, V₆, K₆, htabs, hρ₆, hS0, hS1, hSl⟩ := book_build (C := C) (n := n + 6) (ρ := ρ₃) H hb5 hh5 hi5 (K₅.keep _ _ (np g0) h0) (K₅.keep _ _ (np g1) h1) hne rfl
 have nq : q ∉ [b, h, i] := by
  simp only [List.mem_cons, List.not_mem_nil, or_false, not_or]
  refine ⟨fun e => ?_, fun e => ?_, fun e => ?_⟩
  ·rw [e, hb5] at hq; cases hq
  ·rw [e, hh5] at hq; cases hq
  ·rw [e, hi5] at hq; cases hq
 have W₆ : FlowAt σ₆ L F₀ := W₅.keepD K₆ fun x hx => by
  simp only [List.mem_cons, List.not_mem_nil, or_false] at hx
  have hx' : σ₃.length ≤ x := by rcases hx with rfl | rfl | rfl <;> assumption
  exact ⟨fun hm => by have := W₃.lt hm; lia, fun e => by have := W₃.ltm; lia⟩
 have hs₆ : Src σ₆ p := hs₅.keep K₆ (by simp only [List.mem_cons, List.not_mem_nil, or_false, not_or]; lia)
 have hq6 := K₆.keep _ _ nq hq
 have hq5l : q < σ₅.length := (List.getElem?_eq_some_iff.mp hq).1
 have hq4 : σ₄.length ≤ q := hq5
 have h0l := hlt h0
 have h1l := hlt h1
 have l35 : σ₃.length ≤ σ₅.length := by have := K₄.len; have := K₅.len; lia
 have nqt : q ∉ S₀.tabs := fun hm => by rcases htabs q hm with e | e | e <;> lia
 have npt : p ∉ S₀.tabs := fun hm => by rcases htabs p hm with e | e | e <;> lia
 let ρ₇ := asets ρ₆ [204, 116] [.int (-1), .inst 54 L.lm]
 have hρ₇ : ∀ a, a ≠ 204 → a ≠ 116 → alook ρ₇ a = alook ρ₆ a := fun a h1 h2 => by
  show alook (aset (aset ρ₆ 204 (.int (-1))) 116 (.inst 54 L.lm)) a = _
  rw [alook_aset_ne _ _ h2, alook_aset_ne _ _ h1]
 have a88 : alook ρ₆ 88 = some (.inst 208 L.f) := by rw [hρ₆ _ (by decide) (by decide) (by decide)]; rfl
 have a78 : alook ρ₆ 78 = some (.loc q) := by rw [hρ₆ _ (by decide) (by decide) (by decide)]; rfl
 have a57 : alook ρ₆ 57 = some (.loc b) := by rw [hρ₆ _ (by decide) (by decide) (by decide)]; rfl
 have a208 : alook ρ₆ 208 = some (.loc p) := by rw [hρ₆ _ (by decide) (by decide) (by decide)]; rfl
 have hX₇ : X1 C (n + 7) (.sett [204, 116] (.tup [.neg (.lit (.int 1)), .attr (.var 88) 214])) ρ₆ σ₆ .next ρ₇ σ₆ := .sett (.tup (.cons (.neg .lit) (.cons (ev_summary H W₆ (.var a88)) .nil)))
 have b204 : alook ρ₇ 204 = some (.int (-1)) := by
  show alook (aset (aset ρ₆ 204 (.int (-1))) 116 (.inst 54 L.lm)) 204 = _
  rw [alook_aset_ne _ _ (by decide)]; exact alook_aset_same ..
 obtain ⟨j₇, ρ₈, σ₇, F, hW₇, W₇, K₇, hgr, hcF, hlF, hgF, hρ₈⟩ := flow_loop (n := n) (L := L) (q := q) H hds (92 - F₀.size).toNat ρ₇ σ₆ F₀ (-1) (by lia) W₆ hq6 (by rw [hρ₇ _ (by decide) (by decide)]; exact a88) (by rw [hρ₇ _ (by decide) (by decide)]; exact a78) (alook_aset_same ..) b204 (by have := F₀.size_nonneg; lia)
 have V₇ : BookAt σ₇ ⟨b, h, i⟩ S₀ := V₆.keep K₇ fun x hx => by
  have := W₃.lt hx
  refine ⟨by show x ≠ b; lia, by show x ≠ h; lia, by show x ≠ i; lia, fun hm => W₆.list_off (V₆.tab x hm) hx⟩
 have hq7 := K₇.keep _ _ (W₆.list_off hq6) hq6
 have hs₇ : Src σ₇ p := hs₆.keep K₇ (by obtain ⟨g, s, hh, _⟩ := hs₆; exact W₆.list_off hh)
 let ρ₉ := aset ρ₈ 204 (.int (-1))
 have hρ₉ : ∀ a, a ≠ 204 → a ≠ 116 → a ≠ 77 → alook ρ₉ a = alook ρ₆ a := fun a h1 h2 h3 => by
  show alook (aset ρ₈ 204 (.int (-1))) a = _
  rw [alook_aset_ne _ _ h1, hρ₈ a h3 h1, hρ₇ a h1 h2]
 obtain ⟨j₈, ρₐ, σ₈, K, hW₈, V₈, K₈, hsK, hcK, hlK, hρₐ⟩ := book_loop (n := n + 1) (B := ⟨b, h, i⟩) (q := q) H hds (92 - S₀.size).toNat ρ₉ σ₇ S₀ (-1) (by lia) V₇ hq7 nqt (by rw [hρ₉ _ (by decide) (by decide) (by decide)]; exact a57) (by rw [hρ₉ _ (by decide) (by decide) (by decide)]; exact a78) (alook_aset_same ..) (by have := S₀.size_nonneg; lia)
 have W₈ : FlowAt σ₈ L F := W₇.keepD K₈ fun x hx => ⟨W₇.list_off (V₇.tab x hx), fun e => by
  obtain ⟨as, a1, _⟩ := W₇.sm
  have := V₇.tab x hx
  rw [e, a1] at this; cases this⟩
 have hs₈ : Src σ₈ p := hs₇.keep K₈ npt
 have hFs := hgr.sub
 have hKs := hsK.sub
 have A : Agree F K := ⟨hlF K (hF0 (hKs.held _ _ hS0) (hKs.held _ _ hS1)) hcK, hlK F (hSl F (hFs.held _ _ hF00.1) (hFs.held _ _ hF00.2)) hcF⟩
 have c88 : alook ρₐ 88 = some (.inst 208 L.f) := by rw [hρₐ _ (by decide) (by decide), hρ₉ _ (by decide) (by decide) (by decide)]; exact a88
 have c57 : alook ρₐ 57 = some (.loc b) := by rw [hρₐ _ (by decide) (by decide), hρ₉ _ (by decide) (by decide) (by decide)]; exact a57
 have c208 : alook ρₐ 208 = some (.loc p) := by rw [hρₐ _ (by decide) (by decide), hρ₉ _ (by decide) (by decide) (by decide)]; exact a208
 obtain ⟨σ₉, hc₉, K₉⟩ := law_stands_spec (n := n + 3) H W₈ V₈ A (hgF hG0)
 obtain ⟨σ', hc'⟩ := law_operands_spec (n := n + 3) H (W₈.keep K₉) (hs₈.keep K₉ (by simp))
 have hX₉ : X1 C (n + 7) (.setv 204 (.neg (.lit (.int 1)))) ρ₈ σ₇ .next ρ₉ σ₇ := .setv (.neg .lit)
 have hret : X1 C (n + 7) (.ret (.and [.call (.glob 45) [.var 88, .var 57], .call (.glob 34) [.var 208, .var 88]])) ρₐ σ₈ (.ret (.bool true)) ρₐ σ' :=
  .ret (.and2 (.call (gl_law_stands H) (ke_law_stands H) (.cons (.var c88) (.cons (.var c57) .nil)) hc₉) (fun _ => .call (gl_law_operands_right H) (ke_law_operands_right H) (.cons (.var c208) (.cons (.var c88) .nil)) hc') (fun h => by cases h))
 exact ⟨ρₐ, σ', cont (.cons hX₂ (.cons hX₅ (hX₆ (.cons hX₇ (.cons (.while hW₇) (.cons hX₉ (.cons (.while hW₈) (.out hret (by simp)))))))))⟩
end
end Mine
namespace Mine
open PySem PySem.W PyProof.Rows PySem.Calls PySem.Spec PySem.SeqAt
theorem run_body {C : Cx} {n : Nat} {prog : List IS} {j : Nat} {l : Addr} {ρ' : List (Nat × MV)} {σ' : MH} {v : MV} (hx : Xs C n prog [(j, .raw (.ref l))] [] (.ret v) ρ' σ')
  {body : List Stmt} {name : Str} {scope : Scope} {fa : Addr} {cd : Value} {m : Str → Option Value} {s : Shared} {A : Around} {Q : Flow → Shared → Prop} {E : Value → Shared → Prop}
  (hb : chkSs scope.names prog body = true) (hk : scope.kind = .function) (hnc : scope.names.all (fun x => x.2 == .local || x.2 == .globalImplicit) = true) (hr : Room (A.deeper (envOf name scope C.h₀.objs.size fa cd)) n)
  (F : Fr C.h₀ C.h₀.objs.size s.heap m) (hm : m (tx j) = some (.ref l))
  (hQ : ∀ s' rv ι', VR ι' s'.heap v rv → (∀ b o, C.h₀.get? b = some o → s'.heap.get? b = some o) → s'.gens = s.gens → s'.os = s.os → Q (.ret rv) s') :
  wpAny (model C.prog C.w) (A.deeper (envOf name scope C.h₀.objs.size fa cd)) (execs body (envOf name scope C.h₀.objs.size fa cd)) Q E s := by
 let Fm : Frm := { env := envOf name scope C.h₀.objs.size fa cd, D := [C.h₀.objs.size], own := true }
 have hkind : ∀ y k, Fm.env.kindOf y = some k → k = .local ∨ k = .globalImplicit := fun y k h => by
  have hmem : (y, k) ∈ scope.names := lookup_memS h
  have := List.all_eq_true.mp hnc _ hmem
  simpa using this
 have ok : FrmOk C Fm := {
  kind := hk, globals := rfl, builtins := rfl, locals := by simp [Fm, envOf], above := fun a ha => by rw [List.mem_singleton.mp ha]; exact Nat.le_refl _
  cell := fun _ y c h => by rcases hkind _ _ h with e | e <;> cases e
  cells := fun _ y z c h => by rcases hkind _ _ h with e | e <;> cases e }
 have hlt := F.ns.lt
 have hat : At C Fm [] [] [(j, .raw (.ref l))] s.heap := {
  rel := ⟨rfl, by simp, by simp, fun n o h => by simp at h, F.keep, Nat.le_of_lt hlt⟩
  vars := by
   refine ⟨m, F.ns, fun i y hy => ?_⟩
   cases hko : Fm.env.kindOf y with
   | none => trivial
   | some k =>
    rcases hkind _ _ hko with rfl | rfl
    ·intro u hu
     simp only [alook] at hu
     split at hu
     ·rename_i e
      have e := Nat.eq_of_beq_eq_true e
      subst e; cases hu
      exact ⟨.ref l, by rw [← tx_of hy]; exact hm, by first | exact rfl | exact ⟨_, rfl⟩⟩
     ·cases hu
    ·trivial
  dok := fun a ha => by
   simp only [Fm, List.mem_singleton] at ha
   subst ha
   obtain ⟨o, es, ep, h1, h2, _⟩ := F.ns
   exact ⟨by simp, o, h1, .inl ⟨es, ep, h2⟩⟩ }
 refine wpAny_mono (hx Fm body _ [] s hb ok rfl hr hat) (fun f s' p => ?_) fun _ _ z => z.elim
 obtain ⟨ι', A', L', S'⟩ := p
 obtain ⟨rv, rfl, hrv⟩ := L'
 exact hQ s' rv ι' hrv A'.rel.keep S'.gens S'.os
end Mine
namespace Mine
open PySem PySem.W PyProof.Rows PySem.Calls
theorem post_true (args : List WData) : PySem.Challenge.rw_xm0175_01.row.claim.post args (.bool true) args = true := by with_unfolding_all rfl
theorem good_true (cl : Str → Option Addr) (mean : ExcName → Option Value) (args : List WData) (s₁ s' : Shared) (hk : ∀ b o, s₁.heap.get? b = some o → s'.heap.get? b = some o) (ho : s'.os = s₁.os) (hg : s'.gens = #[]) :
  GoodW PySem.Challenge.rw_xm0175_01.row.claim cl mean args s₁ (.ok (.ret (.bool true))) s' :=
 ⟨.inl ⟨.bool true, .bool true, [], rfl, fun _ => rfl, .bool true, post_true args, fun _ => ⟨List.nodup_nil, fun _ h => nomatch h⟩⟩, hk, ho, hg⟩
theorem fact_goal {K : Frag} {h : Heap} (_ : K.In h) (L : AllP (facts K)) : AllP (facts K) := L
theorem whole.tw427333557424167660 : True := ⟨⟩
theorem whole.tw4934077235998201596 : True := ⟨⟩
theorem whole.tw978456291528864041 : True := ⟨⟩
theorem whole.tw16505068655815891843 : True := ⟨⟩
theorem whole.tw6711224856247384401 : True := ⟨⟩
theorem whole.tw3909395182359919685 : True := ⟨⟩
theorem whole.tw6553984163096543158 : True := ⟨⟩
theorem whole.tw11423436602419212718 : True := ⟨⟩
theorem whole.tw10301362462094837657 : True := ⟨⟩
theorem whole.tw4346055641746905949 : True := ⟨⟩
theorem whole.tw5938623499991607928 : True := ⟨⟩
theorem whole.tw7689902935678670512 : True := ⟨⟩
theorem whole.tw9685896690342822935 : True := ⟨⟩
theorem whole.tw13829708278779851847 : True := ⟨⟩
theorem whole.tw843396670912023852 : True := ⟨⟩
theorem whole.tw1692622564874605650 : True := ⟨⟩
theorem whole.tw6525215580464160042 : True := ⟨⟩
theorem whole.tw7280849871689594849 : True := ⟨⟩
theorem whole.tw17980908128825299112 : True := ⟨⟩
theorem whole.tw2665807779830099079 : True := ⟨⟩
theorem whole.tw14654356449610600485 : True := ⟨⟩
theorem whole.tw14671651394210877623 : True := ⟨⟩
theorem whole.tw2439357469168130064 : True := ⟨⟩
theorem whole.tw14381574177426341226 : True := ⟨⟩
theorem whole.tw10838650209671834137 : True := ⟨⟩
theorem whole.tw18135788421098096370 : True := ⟨⟩
theorem whole.tw12384909515848061526 : True := ⟨⟩
theorem whole.tw5297632933804744799 : True := ⟨⟩
theorem whole.tw12928932934922122878 : True := ⟨⟩
theorem whole.tw3125283655325999989 : True := ⟨⟩
theorem whole.tw5277582801102665213 : True := ⟨⟩
theorem whole.tw14390007995909808975 : True := ⟨⟩
theorem whole.tw431044224361937856 : True := ⟨⟩
theorem whole.tw17175008800681467811 : True := ⟨⟩
theorem whole.tw5408107943391738 : True := ⟨⟩
theorem whole.tw7564407027854533171 : True := ⟨⟩
theorem whole.tw9170513070990267023 : True := ⟨⟩
theorem whole.tw1242133270297695508 : True := ⟨⟩
theorem whole.tw10438997657263567297 : True := ⟨⟩
theorem whole.tw1114806542021703131 : True := ⟨⟩
theorem whole.tw3099485228618234346 : True := ⟨⟩
theorem whole.tw13018183266405097566 : True := ⟨⟩
theorem whole.tw675793542917168019 : True := ⟨⟩
theorem whole.tw5462770333876777704 : True := ⟨⟩
theorem whole.tw3166543957339863982 : True := ⟨⟩
theorem whole.tw5942346508108547180 : True := ⟨⟩
theorem whole.tw16026843855606243410 : True := ⟨⟩
theorem whole.tw10565146586650446459 : True := ⟨⟩
theorem whole.tw16151222146762293071 : True := ⟨⟩
theorem whole.tw3162365515331879682 : True := ⟨⟩
theorem whole.tw6095937858554715304 : True := ⟨⟩
theorem whole.tw6891315699540082446 : True := ⟨⟩
theorem whole.tw9787344453429475573 : True := ⟨⟩
theorem whole.tw6290923202673413122 : True := ⟨⟩
theorem whole.tw17529894129228449367 : True := ⟨⟩
theorem whole.tw1897105925431849711 : True := ⟨⟩
theorem whole.tw3270133029678145397 : True := ⟨⟩
theorem whole.tw46433443316919834 : True := ⟨⟩
theorem whole.tw4918820536221260690 : True := ⟨⟩
theorem whole.tw949743934663060849 : True := ⟨⟩
theorem whole.tw10000958634945066235 : True := ⟨⟩
theorem whole.tw14890280090424698046 : True := ⟨⟩
theorem whole.tw9654072969724333583 : True := ⟨⟩
theorem whole.tw4231903555610802904 : True := ⟨⟩
theorem whole.tw6612613915786651340 : True := ⟨⟩
theorem whole.tw10178181129370835086 : True := ⟨⟩
theorem whole.tw15001587830400145190 : True := ⟨⟩
theorem whole.tw2013318861076662011 : True := ⟨⟩
theorem whole.tw11476502588441444683 : True := ⟨⟩
theorem whole.tw6872907005359335961 : True := ⟨⟩
theorem whole.tw8983667203327932493 : True := ⟨⟩
theorem whole.tw8719548228035378133 : True := ⟨⟩
theorem whole.tw6823266097380344784 : True := ⟨⟩
theorem whole.tw203428145850139289 : True := ⟨⟩
theorem whole.tw7187317218736086229 : True := ⟨⟩
theorem whole.tw6774775609766916077 : True := ⟨⟩
theorem whole.tw9046693723037758376 : True := ⟨⟩
theorem whole.tw1329479340354266572 : True := ⟨⟩
theorem whole.tw16522019608899626074 : True := ⟨⟩
theorem whole.tw4689585835679557668 : True := ⟨⟩
theorem whole.tw9189751539129569556 : True := ⟨⟩
theorem whole.tw5171116725156735389 : True := ⟨⟩
theorem whole.tw7073311072910153293 : True := ⟨⟩
theorem whole.tw2081632904089052959 : True := ⟨⟩
theorem whole.tw12742087137024979937 : True := ⟨⟩
theorem whole.tw18162983195158539490 : True := ⟨⟩
theorem whole.tw13000713063990318526 : True := ⟨⟩
theorem whole.tw14628220171574447489 : True := ⟨⟩
theorem whole.tw9725988738643398560 : True := ⟨⟩
theorem whole.tw6356627984389668255 : True := ⟨⟩
theorem whole.tw8572516506043022915 : True := ⟨⟩
theorem whole.tw3945383572190744343 : True := ⟨⟩
theorem whole.tw2362521522948952975 : True := ⟨⟩
theorem whole.tw13478315594510353802 : True := ⟨⟩
theorem whole.tw4234479992401935053 : True := ⟨⟩
theorem whole.tw17395194986337826024 : True := ⟨⟩
theorem whole.tw16588625043399567139 : True := ⟨⟩
theorem whole.tw5081031077709457048 : True := ⟨⟩
theorem whole.tw1765076044715932963 : True := ⟨⟩
theorem whole.tw11690859581915506653 : True := ⟨⟩
theorem whole.tw3802398583823018356 : True := ⟨⟩
theorem whole.tw10153838690179905649 : True := ⟨⟩
theorem whole.tw11384259339768038936 : True := ⟨⟩
theorem whole.tw3935972832432928633 : True := ⟨⟩
theorem whole.tw17843127513448600897 : True := ⟨⟩
theorem whole.tw1219099391390118749 : True := ⟨⟩
theorem whole.tw5433660331597885046 : True := ⟨⟩
theorem whole.tw17179786008130999086 : True := ⟨⟩
theorem whole.tw10219327507634694686 : True := ⟨⟩
theorem whole.tw10887019763833697050 : True := ⟨⟩
theorem whole.tw4107823604484434990 : True := ⟨⟩
theorem whole.tw7452821578398259720 : True := ⟨⟩
theorem whole.tw9722750020625992282 : True := ⟨⟩
theorem whole.tw4447922135398794285 : True := ⟨⟩
theorem whole.tw2536362301702204066 : True := ⟨⟩
theorem whole.tw7248877203947682478 : True := ⟨⟩
theorem whole.tw15401142651479110994 : True := ⟨⟩
theorem whole.tw12442016628978143412 : True := ⟨⟩
theorem whole.tw5542149417468696053 : True := ⟨⟩
theorem whole.tw14756447051001558117 : True := ⟨⟩
theorem whole.tw6933715213461094250 : True := ⟨⟩
theorem whole.tw113900542113845248 : True := ⟨⟩
theorem whole.tw9841425051670495895 : True := ⟨⟩
theorem whole.tw6097748072631727781 : True := ⟨⟩
theorem whole.tw13142167418276237254 : True := ⟨⟩
theorem whole.tw18382394861701510011 : True := ⟨⟩
theorem whole.tw9625973628771424018 : True := ⟨⟩
theorem whole.tw4672207989499910625 : True := ⟨⟩
theorem whole.tw4180466227808675834 : True := ⟨⟩
theorem whole.tw16442795661328238356 : True := ⟨⟩
theorem whole.tw2777902329107566167 : True := ⟨⟩
theorem whole.tw356215775963413058 : True := ⟨⟩
theorem whole.tw12077107353733055826 : True := ⟨⟩
theorem whole.tw15206955865107345967 : True := ⟨⟩
theorem whole.tw8101450032967502455 : True := ⟨⟩
theorem whole.tw6714927969197098277 : True := ⟨⟩
theorem whole.tw11876454138822706389 : True := ⟨⟩
theorem whole.tw5833760311655045577 : True := ⟨⟩
theorem whole.tw14776171463994254414 : True := ⟨⟩
theorem whole.tw5790326999694950120 : True := ⟨⟩
theorem whole.tw6065093676875020208 : True := ⟨⟩
theorem whole.tw8699793337390238261 : True := ⟨⟩
theorem whole.tw10805158454514937742 : True := ⟨⟩
theorem whole.tw12920395458479335663 : True := ⟨⟩
theorem whole.tw7576292583959916747 : True := ⟨⟩
theorem whole.tw10344827342348678470 : True := ⟨⟩
theorem whole.tw5137022389394785357 : True := ⟨⟩
theorem whole.tw10339747121181971505 : True := ⟨⟩
theorem whole.tw5532809562029925614 : True := ⟨⟩
theorem whole.tw43722865635132848 : True := ⟨⟩
theorem whole.tw8309436690622926411 : True := ⟨⟩
theorem whole.tw254780913952180833 : True := ⟨⟩
theorem whole.tw11409993775148365219 : True := ⟨⟩
theorem whole.tw4338333698743118245 : True := ⟨⟩
theorem whole.tw10488504414272976643 : True := ⟨⟩
theorem whole.tw14192229110069238088 : True := ⟨⟩
theorem whole.tw6103026700132343946 : True := ⟨⟩
theorem whole.tw4357746044423742650 : True := ⟨⟩
theorem whole.tw8961415085178454156 : True := ⟨⟩
theorem whole.tw13730376311393935369 : True := ⟨⟩
theorem whole.tw15105012252411618398 : True := ⟨⟩
theorem whole.tw14138553856905868755 : True := ⟨⟩
theorem whole.tw15652777202477211125 : True := ⟨⟩
theorem whole.tw13675596732203519343 : True := ⟨⟩
theorem whole.tw2083198920140632441 : True := ⟨⟩
theorem whole.tw9521756469634577901 : True := ⟨⟩
theorem whole.tw9212966250080664162 : True := ⟨⟩
theorem whole.tw668774492082921180 : True := ⟨⟩
theorem whole.tw1072497446573119103 : True := ⟨⟩
theorem whole.tw6896427876366098391 : True := ⟨⟩
theorem whole.tw2168223474955763204 : True := ⟨⟩
theorem whole.tw2021854409746315462 : True := ⟨⟩
theorem whole.tw13749801708979339770 : True := ⟨⟩
theorem whole.tw6330797023819526829 : True := ⟨⟩
theorem whole.tw6416634858453334624 : True := ⟨⟩
theorem whole.tw5001923725869043736 : True := ⟨⟩
theorem whole.tw16845944245580146995 : True := ⟨⟩
theorem whole.tw17659150536888882668 : True := ⟨⟩
theorem whole.tw13620630892247905533 : True := ⟨⟩
theorem whole.tw17870853324313594786 : True := ⟨⟩
theorem whole.tw14407849266092530191 : True := ⟨⟩
theorem whole.tw9024608533772062355 : True := ⟨⟩
theorem whole.tw13285438998962464343 : True := ⟨⟩
theorem whole.tw14173393766343599159 : True := ⟨⟩
theorem whole.tw7525632177321363660 : True := ⟨⟩
theorem whole.tw397210227534267232 : True := ⟨⟩
theorem whole.tw2349701861695252166 : True := ⟨⟩
theorem whole.tw15462414832971340256 : True := ⟨⟩
theorem whole.tw3384858237140249800 : True := ⟨⟩
theorem whole.tw12384220206497402333 : True := ⟨⟩
theorem whole.tw17092094596097150618 : True := ⟨⟩
theorem whole.tw7645621925510333512 : True := ⟨⟩
theorem whole.tw15274856360797078626 : True := ⟨⟩
theorem whole.tw14916202748087371944 : True := ⟨⟩
theorem whole.tw13974613887430780637 : True := ⟨⟩
theorem whole.tw16668768811381343612 : True := ⟨⟩
theorem whole.tw6150244297128479101 : True := ⟨⟩
theorem whole.tw6396017553259284124 : True := ⟨⟩
theorem whole.tw13989200534822022692 : True := ⟨⟩
theorem whole.tw7629044590068779621 : True := ⟨⟩
theorem whole.tw9416693575131194153 : True := ⟨⟩
theorem whole.tw5438831827131416888 : True := ⟨⟩
theorem whole.tw11966515284280811977 : True := ⟨⟩
theorem whole.tw1902754551582867561 : True := ⟨⟩
theorem whole.tw12219512705738599021 : True := ⟨⟩
theorem whole.tw5189780602208921310 : True := ⟨⟩
theorem whole.tw1470681187219097129 : True := ⟨⟩
theorem whole.tw9464417701048127947 : True := ⟨⟩
theorem whole.tw7276013540153241084 : True := ⟨⟩
theorem whole.tw7499365098147365621 : True := ⟨⟩
theorem whole.tw11975771152792504044 : True := ⟨⟩
theorem whole.tw10590843552420965350 : True := ⟨⟩
theorem whole.tw7856580471358416282 : True := ⟨⟩
theorem whole.tw10472183733418339316 : True := ⟨⟩
theorem whole.tw620233503781600244 : True := ⟨⟩
theorem whole.tw11952309323241053379 : True := ⟨⟩
theorem whole.tw6898602032456555426 : True := ⟨⟩
theorem whole.tw10461253832287612282 : True := ⟨⟩
theorem whole.tw15015764479258077956 : True := ⟨⟩
theorem whole.tw17814491789457634051 : True := ⟨⟩
theorem whole.tw14457598465852218886 : True := ⟨⟩
theorem whole.tw12066178620653064874 : True := ⟨⟩
theorem whole.tw9200330197067421115 : True := ⟨⟩
theorem whole.tw13468923340822585488 : True := ⟨⟩
theorem whole.tw12117460353608821864 : True := ⟨⟩
theorem whole.tw13329942582686594379 : True := ⟨⟩
theorem whole.tw4603890583814415204 : True := ⟨⟩
theorem whole.tw842793390314483620 : True := ⟨⟩
theorem whole.tw8184708281838074206 : True := ⟨⟩
theorem whole.tw12012580348766612465 : True := ⟨⟩
theorem whole.tw6266228650988000492 : True := ⟨⟩
theorem whole.tw10118140284582671090 : True := ⟨⟩
theorem whole.tw11791088910183784695 : True := ⟨⟩
theorem whole.tw2912573282932879776 : True := ⟨⟩
theorem whole.tw6439044937563058680 : True := ⟨⟩
theorem whole.tw1266484639899004939 : True := ⟨⟩
theorem whole.tw8868806382682364411 : True := ⟨⟩
theorem whole.tw14765760737338471991 : True := ⟨⟩
theorem whole.tw3016316376071577429 : True := ⟨⟩
theorem whole.tw10499325594661192776 : True := ⟨⟩
theorem whole.tw12179455670472476543 : True := ⟨⟩
theorem whole.tw14302830165969023719 : True := ⟨⟩
theorem whole.tw5879479702872096659 : True := ⟨⟩
theorem whole.tw5649241889958590350 : True := ⟨⟩
theorem whole.tw17819583843959417973 : True := ⟨⟩
theorem whole.tw15103685750691789098 : True := ⟨⟩
theorem whole.tw10616696396452150886 : True := ⟨⟩
theorem whole.tw4162360135600614074 : True := ⟨⟩
theorem whole.tw15695161780090201225 : True := ⟨⟩
theorem whole.tw17881794589497109145 : True := ⟨⟩
theorem whole.tw3479739002732855021 : True := ⟨⟩
theorem whole.tw13760198194640045919 : True := ⟨⟩
theorem whole.tw7868544009499267292 : True := ⟨⟩
theorem whole.tw4605417425148642151 : True := ⟨⟩
theorem whole.tw15189915617685484396 : True := ⟨⟩
theorem whole.tw4444701892398472603 : True := ⟨⟩
theorem whole.tw2781955308351554444 : True := ⟨⟩
theorem whole.tw9733464779038806419 : True := ⟨⟩
theorem whole.tw11793381155483064346 : True := ⟨⟩
theorem whole.tw536816803628104207 : True := ⟨⟩
theorem whole.tw10144505478992762587 : True := ⟨⟩
theorem whole.tw6766658173562982576 : True := ⟨⟩
theorem whole.tw17781206938751360472 : True := ⟨⟩
theorem whole.tw5405151241437436114 : True := ⟨⟩
theorem whole.tw7588574119468234827 : True := ⟨⟩
theorem whole.tw8444963059077079450 : True := ⟨⟩
theorem whole.tw9838295914634562783 : True := ⟨⟩
theorem whole.tw5360207378560713126 : True := ⟨⟩
theorem whole.tw17454085226186693669 : True := ⟨⟩
theorem whole.tw13334927893685096626 : True := ⟨⟩
theorem whole.tw9406530864695525851 : True := ⟨⟩
theorem whole.tw11678933692714762019 : True := ⟨⟩
theorem whole.tw15564212434770411261 : True := ⟨⟩
theorem whole.tw10335108021726791369 : True := ⟨⟩
theorem whole.tw1488662743745869538 : True := ⟨⟩
theorem whole.tw10002100669626812175 : True := ⟨⟩
theorem whole.tw1601961968588287001 : True := ⟨⟩
theorem whole.tw3085902745639715626 : True := ⟨⟩
theorem whole.tw4337987958061720545 : True := ⟨⟩
theorem whole.tw4425801844655736460 : True := ⟨⟩
theorem whole.tw6496092161831514541 : True := ⟨⟩
theorem whole.tw3947618128840659280 : True := ⟨⟩
theorem whole.tw369943808078234791 : True := ⟨⟩
theorem whole.tw16741440440132755172 : True := ⟨⟩
theorem whole.tw13829650905133233515 : True := ⟨⟩
theorem whole.tw2959683903145980101 : True := ⟨⟩
theorem whole.tw1934810232205804993 : True := ⟨⟩
theorem whole.tw4725433933799282014 : True := ⟨⟩
theorem whole.tw1190864636047389510 : True := ⟨⟩
theorem whole.tw16455801630045977680 : True := ⟨⟩
theorem whole.tw12852820008105578649 : True := ⟨⟩
theorem whole.tw9501391760213346845 : True := ⟨⟩
theorem whole.tw4535560162481520197 : True := ⟨⟩
theorem whole.tw13110515450571257733 : True := ⟨⟩
theorem whole.tw13061340530893119238 : True := ⟨⟩
theorem whole.tw7545590854473540767 : True := ⟨⟩
theorem whole.tw11187447588885237514 : True := ⟨⟩
theorem whole.tw1469495571348798126 : True := ⟨⟩
theorem whole.tw13835169320686990480 : True := ⟨⟩
theorem whole.tw17692944630003236201 : True := ⟨⟩
theorem whole.tw2401531773124529735 : True := ⟨⟩
theorem whole.tw1859146779660683823 : True := ⟨⟩
theorem whole.tw14492196311604417308 : True := ⟨⟩
theorem whole.tw6049599900894316688 : True := ⟨⟩
theorem whole.tw16738726308800667447 : True := ⟨⟩
theorem whole.tw10832908153356258463 : True := ⟨⟩
theorem whole.tw8243020233432551205 : True := ⟨⟩
theorem whole.tw14621228733418778453 : True := ⟨⟩
theorem whole.tw1182916100746360932 : True := ⟨⟩
theorem whole.tw8799044985600393684 : True := ⟨⟩
theorem whole.tw15657491793718945610 : True := ⟨⟩
theorem whole.tw3860174431591174066 : True := ⟨⟩
theorem whole.tw12850242359631670003 : True := ⟨⟩
theorem whole.tw17195952149560314771 : True := ⟨⟩
theorem whole.tw17992364426957274132 : True := ⟨⟩
theorem whole.tw18060336119277286115 : True := ⟨⟩
theorem whole.tw15835130817642446534 : True := ⟨⟩
theorem whole.tw15716183405302250479 : True := ⟨⟩
theorem whole.tw1587768003098754325 : True := ⟨⟩
theorem whole.tw6772379921613518395 : True := ⟨⟩
theorem whole.tw7087919195168620137 : True := ⟨⟩
theorem whole.tw590541238101311183 : True := ⟨⟩
theorem whole.tw17700112632457955127 : True := ⟨⟩
theorem whole.tw10602399703277881627 : True := ⟨⟩
theorem whole.tw5146043315109619605 : True := ⟨⟩
theorem whole.tw4772658413541480157 : True := ⟨⟩
theorem whole.tw6866068747796929802 : True := ⟨⟩
theorem whole.tw16912792503757511054 : True := ⟨⟩
theorem whole.tw16576061068926947915 : True := ⟨⟩
theorem whole.tw4487652198498899664 : True := ⟨⟩
theorem whole.tw17463027529269885953 : True := ⟨⟩
theorem whole.tw6197045082498751548 : True := ⟨⟩
theorem whole.tw5201323674647411954 : True := ⟨⟩
theorem whole.tw161333873384909080 : True := ⟨⟩
theorem whole.tw14592908492388784131 : True := ⟨⟩
theorem whole.tw17789319016849944305 : True := ⟨⟩
theorem whole.tw1633898876240874773 : True := ⟨⟩
theorem whole.tw16731332320388202666 : True := ⟨⟩
theorem whole.tw12562849145585476731 : True := ⟨⟩
theorem whole.tw14725644924352215136 : True := ⟨⟩
theorem whole.tw14239292526413980002 : True := ⟨⟩
theorem whole.tw12761472262123182041 : True := ⟨⟩
theorem whole.tw12808456870637180559 : True := ⟨⟩
theorem whole.tw2989192609971925910 : True := ⟨⟩
theorem whole.tw11116944545036436439 : True := ⟨⟩
theorem whole.tw8109663874093803249 : True := ⟨⟩
theorem whole.tw17948893368442150300 : True := ⟨⟩
theorem whole.tw14395644662136614805 : True := ⟨⟩
theorem whole.tw3390907139478361160 : True := ⟨⟩
theorem whole.tw16616245412964173377 : True := ⟨⟩
theorem whole.tw16564990636065421569 : True := ⟨⟩
theorem whole.tw6888942637506950926 : True := ⟨⟩
theorem whole.tw13155097880312403346 : True := ⟨⟩
theorem whole.tw6211587326476211309 : True := ⟨⟩
theorem whole.tw7056001396292377188 : True := ⟨⟩
theorem whole.tw3141554390599180669 : True := ⟨⟩
theorem whole.tw17841917278309519415 : True := ⟨⟩
theorem whole.tw10467399731503315703 : True := ⟨⟩
theorem whole.tw12381228794656768651 : True := ⟨⟩
theorem whole.tw12098860561503762481 : True := ⟨⟩
theorem whole.tw16342273516520970692 : True := ⟨⟩
theorem whole.tw6453619897266653623 : True := ⟨⟩
theorem whole.tw12207685810698929643 : True := ⟨⟩
theorem whole.tw10025635815308576066 : True := ⟨⟩
theorem whole.tw5233578499609466721 : True := ⟨⟩
theorem whole.tw18174217711786252908 : True := ⟨⟩
theorem whole.tw6377287985247879410 : True := ⟨⟩
theorem whole.tw1393339623888494026 : True := ⟨⟩
theorem whole.tw8894826161267586577 : True := ⟨⟩
theorem whole.tw13213058742666125385 : True := ⟨⟩
theorem whole.tw9446046918361872579 : True := ⟨⟩
theorem whole.tw4163455835068889971 : True := ⟨⟩
theorem whole.tw381110514646162275 : True := ⟨⟩
theorem whole.tw7078629122812257199 : True := ⟨⟩
theorem whole.tw16062187612904122858 : True := ⟨⟩
theorem whole.tw6531100040246800141 : True := ⟨⟩
theorem whole.tw11357175057958205107 : True := ⟨⟩
theorem whole.tw3798757254938238448 : True := ⟨⟩
theorem whole.tw15089273742334493110 : True := ⟨⟩
theorem whole.tw12478609949429157409 : True := ⟨⟩
theorem whole.tw10379991877525085312 : True := ⟨⟩
theorem whole.tw3687826684616867901 : True := ⟨⟩
theorem whole.tw10332575325313852403 : True := ⟨⟩
theorem whole.tw3869719713472690019 : True := ⟨⟩
theorem whole.tw9347626172496877827 : True := ⟨⟩
theorem whole.tw17037309529492816295 : True := ⟨⟩
theorem whole.tw11401351377558187561 : True := ⟨⟩
theorem whole.tw7509650053966640704 : True := ⟨⟩
theorem whole.tw16467933323881711526 : True := ⟨⟩
theorem whole.tw1021466310418864216 : True := ⟨⟩
theorem whole.tw2608646628457097981 : True := ⟨⟩
theorem whole.tw17128258169734466478 : True := ⟨⟩
theorem whole.tw16595449952281916149 : True := ⟨⟩
theorem whole.tw6084657873442493111 : True := ⟨⟩
theorem whole.tw13156973312945586846 : True := ⟨⟩
theorem whole.tw17736169528269792722 : True := ⟨⟩
theorem tx_script : tx 197 = Str.ofString "script" := by decide +kernel
end Mine
open PySem PySem.W PyProof.Rows PySem.Calls
set_option Elab.async true in
set_option maxHeartbeats 8000000 in
theorem Mine.whole : PySem.Challenge.rw_xm0175_01.Holds := by
 w_on
 o_law
 k_head
 case hw => w_witness2
 k_go0
 rename Fr _ _ _ _ => F
 rename Top _ _ _ _ _ _ => T
 rename IntsAre _ _ => hI
 rename Heap.IsList _ _ _ => hL
 rename Frag.In _ _ => KX
 rename (_ = #[]) => hg
 rename ¬ _ < _ => hn
 have L := Mine.fact_goal KX (by
  refine .cons (fnOk1 (by kernel_rfl) (by decide) fun a => by kernel_rfl) ?_
  refine .cons (by kernel_rfl) ?_
  refine .cons (by kernel_rfl) ?_
  refine .cons (fnOk1 (by kernel_rfl) (by decide) fun a => by kernel_rfl) ?_
  refine .cons (by kernel_rfl) ?_
  refine .cons (by kernel_rfl) ?_
  refine .cons (fnOk2a (by kernel_rfl) (by decide) fun a b => by kernel_rfl) ?_
  refine .cons (by kernel_rfl) ?_
  refine .cons (fnOk3 (by kernel_rfl) (by decide) fun a b c => by kernel_rfl) ?_
  refine .cons (by kernel_rfl) ?_
  refine .cons (by kernel_rfl) ?_
  refine .cons (fnOk2a (by kernel_rfl) (by decide) fun a b => by kernel_rfl) ?_
  refine .cons (by kernel_rfl) ?_
  refine .cons (fnOk2a (by kernel_rfl) (by decide) fun a b => by kernel_rfl) ?_
  refine .cons (by kernel_rfl) ?_
  refine .cons (fnOk2a (by kernel_rfl) (by decide) fun a b => by kernel_rfl) ?_
  refine .cons (by kernel_rfl) ?_
  refine .cons (fnOk2a (by kernel_rfl) (by decide) fun a b => by kernel_rfl) ?_
  refine .cons (by kernel_rfl) ?_
  refine .cons (fnOk3 (by kernel_rfl) (by decide) fun a b c => by kernel_rfl) ?_
  refine .cons (by kernel_rfl) ?_
  refine .cons (fnOk3 (by kernel_rfl) (by decide) fun a b c => by kernel_rfl) ?_
  refine .cons (by kernel_rfl) ?_
  refine .cons (fnOk3 (by kernel_rfl) (by decide) fun a b c => by kernel_rfl) ?_
  refine .cons (by kernel_rfl) ?_
  refine .cons (fnOk2a (by kernel_rfl) (by decide) fun a b => by kernel_rfl) ?_
  refine .cons (by kernel_rfl) ?_
  refine .cons (fnOk3 (by kernel_rfl) (by decide) fun a b c => by kernel_rfl) ?_
  refine .cons (by kernel_rfl) ?_
  refine .cons (fnOk3 (by kernel_rfl) (by decide) fun a b c => by kernel_rfl) ?_
  refine .cons (by kernel_rfl) ?_
  refine .cons (fnOk1 (by kernel_rfl) (by decide) fun a => by kernel_rfl) ?_
  refine .cons (by kernel_rfl) ?_
  refine .cons (by kernel_rfl) ?_
  refine .cons (fnOk2a (by kernel_rfl) (by decide) fun a b => by kernel_rfl) ?_
  refine .cons (by kernel_rfl) ?_
  refine .cons (by kernel_rfl) ?_
  refine .cons (fnOk2a (by kernel_rfl) (by decide) fun a b => by kernel_rfl) ?_
  refine .cons (by kernel_rfl) ?_
  refine .cons (by kernel_rfl) ?_
  refine .cons (fnOk0 (by kernel_rfl) (by decide) (by kernel_rfl)) ?_
  refine .cons (by kernel_rfl) ?_
  refine .cons (by kernel_rfl) ?_
  refine .cons (fnOk2a (by kernel_rfl) (by decide) fun a b => by kernel_rfl) ?_
  refine .cons (by kernel_rfl) ?_
  refine .cons (by kernel_rfl) ?_
  refine .cons (fnOk2a (by kernel_rfl) (by decide) fun a b => by kernel_rfl) ?_
  refine .cons (by kernel_rfl) ?_
  refine .cons (by kernel_rfl) ?_
  refine .cons (fnOk2a (by kernel_rfl) (by decide) fun a b => by kernel_rfl) ?_
  refine .cons (by kernel_rfl) ?_
  refine .cons (by kernel_rfl) ?_
  refine .cons (fnOk2a (by kernel_rfl) (by decide) fun a b => by kernel_rfl) ?_
  refine .cons (by kernel_rfl) ?_
  refine .cons (by kernel_rfl) ?_
  refine .cons (fnOk2a (by kernel_rfl) (by decide) fun a b => by kernel_rfl) ?_
  refine .cons (by kernel_rfl) ?_
  refine .cons (by kernel_rfl) ?_
  refine .cons (fnOk3 (by kernel_rfl) (by decide) fun a b c => by kernel_rfl) ?_
  refine .cons (by kernel_rfl) ?_
  refine .cons (by kernel_rfl) ?_
  refine .cons (fnOk2a (by kernel_rfl) (by decide) fun a b => by kernel_rfl) ?_
  refine .cons (by kernel_rfl) ?_
  refine .cons (by kernel_rfl) ?_
  refine .cons (fnOk2a (by kernel_rfl) (by decide) fun a b => by kernel_rfl) ?_
  refine .cons (by kernel_rfl) ?_
  refine .cons (by kernel_rfl) ?_
  refine .cons (fnOk3 (by kernel_rfl) (by decide) fun a b c => by kernel_rfl) ?_
  refine .cons (by kernel_rfl) ?_
  refine .cons (by kernel_rfl) ?_
  refine .cons (fnOk1 (by kernel_rfl) (by decide) fun a => by kernel_rfl) ?_
  refine .cons (by kernel_rfl) ?_
  refine .cons (by kernel_rfl) ?_
  refine .cons (fnOk2a (by kernel_rfl) (by decide) fun a b => by kernel_rfl) ?_
  refine .cons (by kernel_rfl) ?_
  refine .cons (by kernel_rfl) ?_
  refine .cons (fnOk2a (by kernel_rfl) (by decide) fun a b => by kernel_rfl) ?_
  refine .cons (by kernel_rfl) ?_
  refine .cons (by kernel_rfl) ?_
  refine .cons (by kernel_rfl) ?_
  refine .cons (by kernel_rfl) ?_
  refine .cons (by kernel_rfl) ?_
  refine .cons (by kernel_rfl) ?_
  refine .cons (by kernel_rfl) ?_
  refine .cons (by kernel_rfl) ?_
  refine .cons (by kernel_rfl) ?_
  refine .cons (by kernel_rfl) ?_
  refine .cons (by kernel_rfl) ?_
  refine .cons (by kernel_rfl) ?_
  refine .cons (by kernel_rfl) ?_
  refine .cons (by kernel_rfl) ?_
  refine .cons (by kernel_rfl) ?_
  refine .cons (by kernel_rfl) ?_
  refine .cons (by kernel_rfl) ?_
  refine .cons (by kernel_rfl) ?_
  refine .cons (by kernel_rfl) ?_
  refine .cons (by kernel_rfl) ?_
  refine .cons (by kernel_rfl) ?_
  refine .cons (by kernel_rfl) ?_
  refine .cons (by kernel_rfl) ?_
  refine .cons (by kernel_rfl) ?_
  refine .cons (by kernel_rfl) ?_
  refine .cons (by kernel_rfl) ?_
  refine .cons (by kernel_rfl) ?_
  refine .cons (by kernel_rfl) ?_
  refine .cons (by kernel_rfl) ?_
  refine .cons (by kernel_rfl) ?_
  refine .cons (by kernel_rfl) ?_
  refine .cons (by kernel_rfl) ?_
  refine .cons (by kernel_rfl) ?_
  refine .cons (by kernel_rfl) ?_
  refine .cons (by kernel_rfl) ?_
  refine .cons (by kernel_rfl) ?_
  refine .cons (by kernel_rfl) ?_
  refine .cons (by kernel_rfl) ?_
  refine .cons (by kernel_rfl) ?_
  refine .cons (fnOk25 (by kernel_rfl) (by decide) (Option.isSome_iff_exists.mp (by kernel_rfl)) fun a b c d e => by kernel_rfl) ?_
  refine .cons (by kernel_rfl) ?_
  refine .cons (by kernel_rfl) ?_
  refine .cons (by kernel_rfl) ?_
  exact .nil)
 obtain ⟨ρ', σ', hx⟩ := Mine.law_xs (C := ⟨_, _, _, _, _, _, _, _, KX, topRead_of T⟩) (n := 0) (σ := []) L ⟨⟨_, hL, hI⟩, by omega⟩
 refine Mine.run_body hx ?_ rfl ?_ ⟨rfl, ?_, ?_⟩ F ?_ fun s' rv ι' hv hk hgs hos => ?_
 ·kernel_rfl
 ·kernel_rfl
 ·show 302 + 7 < 1000; decide
 ·show 7 + 4 * 7 + 200 < cLine; decide
 ·rw [Mine.tx_script]; rfl
 ·cases (hv : _ = _)
  exact Mine.good_true _ _ _ _ _ hk hos (hgs.trans hg)
theorem PySem.Challenge.cw_xm0175_01_holds : PySem.Challenge.rw_xm0175_01.Holds :=
 Mine.whole
