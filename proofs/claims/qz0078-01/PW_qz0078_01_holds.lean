import PyProof.Rows.All
import Wide.All
import OpenK.AllK
import Wide.FinOn
import Lean
import PySem.Challenge.RW_qz0078_01
set_option Elab.async false
set_option maxRecDepth 100000
set_option compiler.extract_closed false

namespace Qz
theorem ex1 {α1 : Type} {p : α1 → Prop} {b : Prop} (h : ∃ x1, p x1) (f : ∀ x1, p x1 → b) : b := by
  obtain ⟨x1, h⟩ := h
  exact f x1 h
theorem ex2 {α1 : Type} {α2 : Type} {p : α1 → α2 → Prop} {b : Prop} (h : ∃ x1 x2, p x1 x2) (f : ∀ x1 x2, p x1 x2 → b) : b := by
  obtain ⟨x1, x2, h⟩ := h
  exact f x1 x2 h
theorem ex3 {α1 : Type} {α2 : Type} {α3 : Type} {p : α1 → α2 → α3 → Prop} {b : Prop} (h : ∃ x1 x2 x3, p x1 x2 x3) (f : ∀ x1 x2 x3, p x1 x2 x3 → b) : b := by
  obtain ⟨x1, x2, x3, h⟩ := h
  exact f x1 x2 x3 h
theorem ex4 {α1 : Type} {α2 : Type} {α3 : Type} {α4 : Type} {p : α1 → α2 → α3 → α4 → Prop} {b : Prop} (h : ∃ x1 x2 x3 x4, p x1 x2 x3 x4) (f : ∀ x1 x2 x3 x4, p x1 x2 x3 x4 → b) : b := by
  obtain ⟨x1, x2, x3, x4, h⟩ := h
  exact f x1 x2 x3 x4 h
theorem ex5 {α1 : Type} {α2 : Type} {α3 : Type} {α4 : Type} {α5 : Type} {p : α1 → α2 → α3 → α4 → α5 → Prop} {b : Prop} (h : ∃ x1 x2 x3 x4 x5, p x1 x2 x3 x4 x5) (f : ∀ x1 x2 x3 x4 x5, p x1 x2 x3 x4 x5 → b) : b := by
  obtain ⟨x1, x2, x3, x4, x5, h⟩ := h
  exact f x1 x2 x3 x4 x5 h
theorem ex6 {α1 : Type} {α2 : Type} {α3 : Type} {α4 : Type} {α5 : Type} {α6 : Type} {p : α1 → α2 → α3 → α4 → α5 → α6 → Prop} {b : Prop} (h : ∃ x1 x2 x3 x4 x5 x6, p x1 x2 x3 x4 x5 x6) (f : ∀ x1 x2 x3 x4 x5 x6, p x1 x2 x3 x4 x5 x6 → b) : b := by
  obtain ⟨x1, x2, x3, x4, x5, x6, h⟩ := h
  exact f x1 x2 x3 x4 x5 x6 h
theorem ex7 {α1 : Type} {α2 : Type} {α3 : Type} {α4 : Type} {α5 : Type} {α6 : Type} {α7 : Type} {p : α1 → α2 → α3 → α4 → α5 → α6 → α7 → Prop} {b : Prop} (h : ∃ x1 x2 x3 x4 x5 x6 x7, p x1 x2 x3 x4 x5 x6 x7) (f : ∀ x1 x2 x3 x4 x5 x6 x7, p x1 x2 x3 x4 x5 x6 x7 → b) : b := by
  obtain ⟨x1, x2, x3, x4, x5, x6, x7, h⟩ := h
  exact f x1 x2 x3 x4 x5 x6 x7 h
theorem ex8 {α1 : Type} {α2 : Type} {α3 : Type} {α4 : Type} {α5 : Type} {α6 : Type} {α7 : Type} {α8 : Type} {p : α1 → α2 → α3 → α4 → α5 → α6 → α7 → α8 → Prop} {b : Prop} (h : ∃ x1 x2 x3 x4 x5 x6 x7 x8, p x1 x2 x3 x4 x5 x6 x7 x8) (f : ∀ x1 x2 x3 x4 x5 x6 x7 x8, p x1 x2 x3 x4 x5 x6 x7 x8 → b) : b := by
  obtain ⟨x1, x2, x3, x4, x5, x6, x7, x8, h⟩ := h
  exact f x1 x2 x3 x4 x5 x6 x7 x8 h
theorem ex9 {α1 : Type} {α2 : Type} {α3 : Type} {α4 : Type} {α5 : Type} {α6 : Type} {α7 : Type} {α8 : Type} {α9 : Type} {p : α1 → α2 → α3 → α4 → α5 → α6 → α7 → α8 → α9 → Prop} {b : Prop} (h : ∃ x1 x2 x3 x4 x5 x6 x7 x8 x9, p x1 x2 x3 x4 x5 x6 x7 x8 x9) (f : ∀ x1 x2 x3 x4 x5 x6 x7 x8 x9, p x1 x2 x3 x4 x5 x6 x7 x8 x9 → b) : b := by
  obtain ⟨x1, x2, x3, x4, x5, x6, x7, x8, x9, h⟩ := h
  exact f x1 x2 x3 x4 x5 x6 x7 x8 x9 h
theorem ex10 {α1 : Type} {α2 : Type} {α3 : Type} {α4 : Type} {α5 : Type} {α6 : Type} {α7 : Type} {α8 : Type} {α9 : Type} {α10 : Type} {p : α1 → α2 → α3 → α4 → α5 → α6 → α7 → α8 → α9 → α10 → Prop} {b : Prop} (h : ∃ x1 x2 x3 x4 x5 x6 x7 x8 x9 x10, p x1 x2 x3 x4 x5 x6 x7 x8 x9 x10) (f : ∀ x1 x2 x3 x4 x5 x6 x7 x8 x9 x10, p x1 x2 x3 x4 x5 x6 x7 x8 x9 x10 → b) : b := by
  obtain ⟨x1, x2, x3, x4, x5, x6, x7, x8, x9, x10, h⟩ := h
  exact f x1 x2 x3 x4 x5 x6 x7 x8 x9 x10 h
theorem ex11 {α1 : Type} {α2 : Type} {α3 : Type} {α4 : Type} {α5 : Type} {α6 : Type} {α7 : Type} {α8 : Type} {α9 : Type} {α10 : Type} {α11 : Type} {p : α1 → α2 → α3 → α4 → α5 → α6 → α7 → α8 → α9 → α10 → α11 → Prop} {b : Prop} (h : ∃ x1 x2 x3 x4 x5 x6 x7 x8 x9 x10 x11, p x1 x2 x3 x4 x5 x6 x7 x8 x9 x10 x11) (f : ∀ x1 x2 x3 x4 x5 x6 x7 x8 x9 x10 x11, p x1 x2 x3 x4 x5 x6 x7 x8 x9 x10 x11 → b) : b := by
  obtain ⟨x1, x2, x3, x4, x5, x6, x7, x8, x9, x10, x11, h⟩ := h
  exact f x1 x2 x3 x4 x5 x6 x7 x8 x9 x10 x11 h
theorem ex12 {α1 : Type} {α2 : Type} {α3 : Type} {α4 : Type} {α5 : Type} {α6 : Type} {α7 : Type} {α8 : Type} {α9 : Type} {α10 : Type} {α11 : Type} {α12 : Type} {p : α1 → α2 → α3 → α4 → α5 → α6 → α7 → α8 → α9 → α10 → α11 → α12 → Prop} {b : Prop} (h : ∃ x1 x2 x3 x4 x5 x6 x7 x8 x9 x10 x11 x12, p x1 x2 x3 x4 x5 x6 x7 x8 x9 x10 x11 x12) (f : ∀ x1 x2 x3 x4 x5 x6 x7 x8 x9 x10 x11 x12, p x1 x2 x3 x4 x5 x6 x7 x8 x9 x10 x11 x12 → b) : b := by
  obtain ⟨x1, x2, x3, x4, x5, x6, x7, x8, x9, x10, x11, x12, h⟩ := h
  exact f x1 x2 x3 x4 x5 x6 x7 x8 x9 x10 x11 x12 h
theorem ex13 {α1 : Type} {α2 : Type} {α3 : Type} {α4 : Type} {α5 : Type} {α6 : Type} {α7 : Type} {α8 : Type} {α9 : Type} {α10 : Type} {α11 : Type} {α12 : Type} {α13 : Type} {p : α1 → α2 → α3 → α4 → α5 → α6 → α7 → α8 → α9 → α10 → α11 → α12 → α13 → Prop} {b : Prop} (h : ∃ x1 x2 x3 x4 x5 x6 x7 x8 x9 x10 x11 x12 x13, p x1 x2 x3 x4 x5 x6 x7 x8 x9 x10 x11 x12 x13) (f : ∀ x1 x2 x3 x4 x5 x6 x7 x8 x9 x10 x11 x12 x13, p x1 x2 x3 x4 x5 x6 x7 x8 x9 x10 x11 x12 x13 → b) : b := by
  obtain ⟨x1, x2, x3, x4, x5, x6, x7, x8, x9, x10, x11, x12, x13, h⟩ := h
  exact f x1 x2 x3 x4 x5 x6 x7 x8 x9 x10 x11 x12 x13 h
theorem ex14 {α1 : Type} {α2 : Type} {α3 : Type} {α4 : Type} {α5 : Type} {α6 : Type} {α7 : Type} {α8 : Type} {α9 : Type} {α10 : Type} {α11 : Type} {α12 : Type} {α13 : Type} {α14 : Type} {p : α1 → α2 → α3 → α4 → α5 → α6 → α7 → α8 → α9 → α10 → α11 → α12 → α13 → α14 → Prop} {b : Prop} (h : ∃ x1 x2 x3 x4 x5 x6 x7 x8 x9 x10 x11 x12 x13 x14, p x1 x2 x3 x4 x5 x6 x7 x8 x9 x10 x11 x12 x13 x14) (f : ∀ x1 x2 x3 x4 x5 x6 x7 x8 x9 x10 x11 x12 x13 x14, p x1 x2 x3 x4 x5 x6 x7 x8 x9 x10 x11 x12 x13 x14 → b) : b := by
  obtain ⟨x1, x2, x3, x4, x5, x6, x7, x8, x9, x10, x11, x12, x13, x14, h⟩ := h
  exact f x1 x2 x3 x4 x5 x6 x7 x8 x9 x10 x11 x12 x13 x14 h
theorem ex15 {α1 : Type} {α2 : Type} {α3 : Type} {α4 : Type} {α5 : Type} {α6 : Type} {α7 : Type} {α8 : Type} {α9 : Type} {α10 : Type} {α11 : Type} {α12 : Type} {α13 : Type} {α14 : Type} {α15 : Type} {p : α1 → α2 → α3 → α4 → α5 → α6 → α7 → α8 → α9 → α10 → α11 → α12 → α13 → α14 → α15 → Prop} {b : Prop} (h : ∃ x1 x2 x3 x4 x5 x6 x7 x8 x9 x10 x11 x12 x13 x14 x15, p x1 x2 x3 x4 x5 x6 x7 x8 x9 x10 x11 x12 x13 x14 x15) (f : ∀ x1 x2 x3 x4 x5 x6 x7 x8 x9 x10 x11 x12 x13 x14 x15, p x1 x2 x3 x4 x5 x6 x7 x8 x9 x10 x11 x12 x13 x14 x15 → b) : b := by
  obtain ⟨x1, x2, x3, x4, x5, x6, x7, x8, x9, x10, x11, x12, x13, x14, x15, h⟩ := h
  exact f x1 x2 x3 x4 x5 x6 x7 x8 x9 x10 x11 x12 x13 x14 x15 h
theorem and2 {a1 a2 b : Prop} (h : a1 ∧ a2) (f : a1 → a2 → b) : b := by
  obtain ⟨ha1, ha2⟩ := h
  exact f ha1 ha2
theorem and3 {a1 a2 a3 b : Prop} (h : a1 ∧ a2 ∧ a3) (f : a1 → a2 → a3 → b) : b := by
  obtain ⟨ha1, ha2, ha3⟩ := h
  exact f ha1 ha2 ha3
theorem and4 {a1 a2 a3 a4 b : Prop} (h : a1 ∧ a2 ∧ a3 ∧ a4) (f : a1 → a2 → a3 → a4 → b) : b := by
  obtain ⟨ha1, ha2, ha3, ha4⟩ := h
  exact f ha1 ha2 ha3 ha4
theorem and5 {a1 a2 a3 a4 a5 b : Prop} (h : a1 ∧ a2 ∧ a3 ∧ a4 ∧ a5) (f : a1 → a2 → a3 → a4 → a5 → b) : b := by
  obtain ⟨ha1, ha2, ha3, ha4, ha5⟩ := h
  exact f ha1 ha2 ha3 ha4 ha5
theorem and6 {a1 a2 a3 a4 a5 a6 b : Prop} (h : a1 ∧ a2 ∧ a3 ∧ a4 ∧ a5 ∧ a6) (f : a1 → a2 → a3 → a4 → a5 → a6 → b) : b := by
  obtain ⟨ha1, ha2, ha3, ha4, ha5, ha6⟩ := h
  exact f ha1 ha2 ha3 ha4 ha5 ha6
theorem and7 {a1 a2 a3 a4 a5 a6 a7 b : Prop} (h : a1 ∧ a2 ∧ a3 ∧ a4 ∧ a5 ∧ a6 ∧ a7) (f : a1 → a2 → a3 → a4 → a5 → a6 → a7 → b) : b := by
  obtain ⟨ha1, ha2, ha3, ha4, ha5, ha6, ha7⟩ := h
  exact f ha1 ha2 ha3 ha4 ha5 ha6 ha7
theorem and8 {a1 a2 a3 a4 a5 a6 a7 a8 b : Prop} (h : a1 ∧ a2 ∧ a3 ∧ a4 ∧ a5 ∧ a6 ∧ a7 ∧ a8) (f : a1 → a2 → a3 → a4 → a5 → a6 → a7 → a8 → b) : b := by
  obtain ⟨ha1, ha2, ha3, ha4, ha5, ha6, ha7, ha8⟩ := h
  exact f ha1 ha2 ha3 ha4 ha5 ha6 ha7 ha8
theorem and9 {a1 a2 a3 a4 a5 a6 a7 a8 a9 b : Prop} (h : a1 ∧ a2 ∧ a3 ∧ a4 ∧ a5 ∧ a6 ∧ a7 ∧ a8 ∧ a9) (f : a1 → a2 → a3 → a4 → a5 → a6 → a7 → a8 → a9 → b) : b := by
  obtain ⟨ha1, ha2, ha3, ha4, ha5, ha6, ha7, ha8, ha9⟩ := h
  exact f ha1 ha2 ha3 ha4 ha5 ha6 ha7 ha8 ha9
theorem and10 {a1 a2 a3 a4 a5 a6 a7 a8 a9 a10 b : Prop} (h : a1 ∧ a2 ∧ a3 ∧ a4 ∧ a5 ∧ a6 ∧ a7 ∧ a8 ∧ a9 ∧ a10) (f : a1 → a2 → a3 → a4 → a5 → a6 → a7 → a8 → a9 → a10 → b) : b := by
  obtain ⟨ha1, ha2, ha3, ha4, ha5, ha6, ha7, ha8, ha9, ha10⟩ := h
  exact f ha1 ha2 ha3 ha4 ha5 ha6 ha7 ha8 ha9 ha10
theorem and11 {a1 a2 a3 a4 a5 a6 a7 a8 a9 a10 a11 b : Prop} (h : a1 ∧ a2 ∧ a3 ∧ a4 ∧ a5 ∧ a6 ∧ a7 ∧ a8 ∧ a9 ∧ a10 ∧ a11) (f : a1 → a2 → a3 → a4 → a5 → a6 → a7 → a8 → a9 → a10 → a11 → b) : b := by
  obtain ⟨ha1, ha2, ha3, ha4, ha5, ha6, ha7, ha8, ha9, ha10, ha11⟩ := h
  exact f ha1 ha2 ha3 ha4 ha5 ha6 ha7 ha8 ha9 ha10 ha11
theorem and12 {a1 a2 a3 a4 a5 a6 a7 a8 a9 a10 a11 a12 b : Prop} (h : a1 ∧ a2 ∧ a3 ∧ a4 ∧ a5 ∧ a6 ∧ a7 ∧ a8 ∧ a9 ∧ a10 ∧ a11 ∧ a12) (f : a1 → a2 → a3 → a4 → a5 → a6 → a7 → a8 → a9 → a10 → a11 → a12 → b) : b := by
  obtain ⟨ha1, ha2, ha3, ha4, ha5, ha6, ha7, ha8, ha9, ha10, ha11, ha12⟩ := h
  exact f ha1 ha2 ha3 ha4 ha5 ha6 ha7 ha8 ha9 ha10 ha11 ha12
theorem and13 {a1 a2 a3 a4 a5 a6 a7 a8 a9 a10 a11 a12 a13 b : Prop} (h : a1 ∧ a2 ∧ a3 ∧ a4 ∧ a5 ∧ a6 ∧ a7 ∧ a8 ∧ a9 ∧ a10 ∧ a11 ∧ a12 ∧ a13) (f : a1 → a2 → a3 → a4 → a5 → a6 → a7 → a8 → a9 → a10 → a11 → a12 → a13 → b) : b := by
  obtain ⟨ha1, ha2, ha3, ha4, ha5, ha6, ha7, ha8, ha9, ha10, ha11, ha12, ha13⟩ := h
  exact f ha1 ha2 ha3 ha4 ha5 ha6 ha7 ha8 ha9 ha10 ha11 ha12 ha13
end Qz

section
open PySem PySem.W PyProof.Rows
namespace Qz
noncomputable def sig1 : Stmt → List (Arguments × List Stmt × Scope)
  | .FunctionDef _ a b _ _ _ c _ _ _ => [(a, b, c)]
  | _ => []
noncomputable def sigs : Stmt → List (List (Arguments × List Stmt × Scope))
  | .ClassDef _ _ _ ms _ _ _ _ _ _ _ => ms.map sig1
  | .FunctionDef _ a b _ _ _ c _ _ _ => [[(a, b, c)]]
  | _ => []
section
open PySem.Value renaming str → vs, int → vi, ref → r, type → vt, none → vn, bool → vb
open PySem.Obj renaming mk → ob
open PySem.Data renaming seq → ds, fields → df, func → du
open PySem.DictEntry renaming mk → de
open PySem.PyData renaming keyHash → kh
open PySem.FuncData renaming mk → fd
open PySem.FuncBody renaming stmts → fb
open PySem.Str renaming ofString → s
set_option maxRecDepth 100000 in
set_option maxHeartbeats 4000000 in
noncomputable def hd.heap_39 : Params → Frag := by
  refine' (?f : ∀ (x1 : Arguments) (x2 : List Stmt) (x6 : Scope) (x15 : Arguments) (x16 : List Stmt) (x20 : Scope) (x25 : Arguments) (x26 : List Stmt) (x30 : Scope) (x57 : Arguments) (x58 : List Stmt) (x62 : Scope) (x67 : Arguments) (x68 : List Stmt) (x72 : Scope) (x77 : Arguments) (x78 : List Stmt) (x82 : Scope) (x87 : Arguments) (x88 : List Stmt) (x92 : Scope) (x97 : Arguments) (x98 : List Stmt) (x102 : Scope) (x107 : Arguments) (x108 : List Stmt) (x112 : Scope) (x117 : Arguments) (x118 : List Stmt) (x122 : Scope) (x127 : Arguments) (x128 : List Stmt) (x132 : Scope) (x137 : Arguments) (x138 : List Stmt) (x142 : Scope) (x147 : Arguments) (x148 : List Stmt) (x152 : Scope) (x157 : Arguments) (x158 : List Stmt) (x162 : Scope) (x167 : Arguments) (x168 : List Stmt) (x172 : Scope) (x184 : Arguments) (x185 : List Stmt) (x189 : Scope) (x194 : Arguments) (x195 : List Stmt) (x199 : Scope) (x204 : Arguments) (x205 : List Stmt) (x209 : Scope) (x214 : Arguments) (x215 : List Stmt) (x219 : Scope) (x224 : Arguments) (x225 : List Stmt) (x229 : Scope) (x234 : Arguments) (x235 : List Stmt) (x239 : Scope) (x248 : Arguments) (x249 : List Stmt) (x253 : Scope) (x258 : Arguments) (x259 : List Stmt) (x263 : Scope) (x268 : Arguments) (x269 : List Stmt) (x273 : Scope) (x278 : Arguments) (x279 : List Stmt) (x283 : Scope) (x288 : Arguments) (x289 : List Stmt) (x293 : Scope) (x298 : Arguments) (x299 : List Stmt) (x303 : Scope) (x315 : Arguments) (x316 : List Stmt) (x320 : Scope) (x325 : Arguments) (x326 : List Stmt) (x330 : Scope) (x335 : Arguments) (x336 : List Stmt) (x340 : Scope) (x345 : Arguments) (x346 : List Stmt) (x350 : Scope) (x355 : Arguments) (x356 : List Stmt) (x360 : Scope) (x365 : Arguments) (x366 : List Stmt) (x370 : Scope) (x380 : Arguments) (x381 : List Stmt) (x385 : Scope) (x400 : Arguments) (x401 : List Stmt) (x405 : Scope) (x420 : Arguments) (x421 : List Stmt) (x425 : Scope) (x440 : Arguments) (x441 : List Stmt) (x445 : Scope) (x450 : Arguments) (x451 : List Stmt) (x455 : Scope) (x467 : Arguments) (x468 : List Stmt) (x472 : Scope) (x477 : Arguments) (x478 : List Stmt) (x482 : Scope) (x487 : Arguments) (x488 : List Stmt) (x492 : Scope) (x497 : Arguments) (x498 : List Stmt) (x502 : Scope) (x510 : Arguments) (x511 : List Stmt) (x515 : Scope) (x520 : Arguments) (x521 : List Stmt) (x525 : Scope) (x530 : Arguments) (x531 : List Stmt) (x535 : Scope) (x548 : Arguments) (x549 : List Stmt) (x553 : Scope) (x558 : Arguments) (x559 : List Stmt) (x563 : Scope) (x569 : Arguments) (x570 : List Stmt) (x574 : Scope) (x579 : Arguments) (x580 : List Stmt) (x584 : Scope) (x589 : Arguments) (x590 : List Stmt) (x594 : Scope) (x600 : Arguments) (x601 : List Stmt) (x605 : Scope) (x610 : Arguments) (x611 : List Stmt) (x615 : Scope) (x620 : Arguments) (x621 : List Stmt) (x625 : Scope) (x630 : Arguments) (x631 : List Stmt) (x635 : Scope) (x640 : Arguments) (x641 : List Stmt) (x645 : Scope) (x650 : Arguments) (x651 : List Stmt) (x655 : Scope) (x660 : Arguments) (x661 : List Stmt) (x665 : Scope) (x670 : Arguments) (x671 : List Stmt) (x675 : Scope), PySem.Challenge.pw_qz0078_01.main.body.map sigs = [[[(x1,x2,x6)]],[],[[(x15,x16,x20)],[(x25,x26,x30)]],[[]],[],[[(x57,x58,x62)],[(x67,x68,x72)],[(x77,x78,x82)],[(x87,x88,x92)],[(x97,x98,x102)],[(x107,x108,x112)],[(x117,x118,x122)],[(x127,x128,x132)],[(x137,x138,x142)],[(x147,x148,x152)],[(x157,x158,x162)],[(x167,x168,x172)]],[[(x184,x185,x189)]],[[(x194,x195,x199)]],[[(x204,x205,x209)]],[[(x214,x215,x219)]],[[(x224,x225,x229)]],[[(x234,x235,x239)]],[],[[(x248,x249,x253)],[(x258,x259,x263)],[(x268,x269,x273)],[(x278,x279,x283)],[(x288,x289,x293)],[(x298,x299,x303)]],[[(x315,x316,x320)]],[[(x325,x326,x330)]],[[(x335,x336,x340)]],[[(x345,x346,x350)]],[[(x355,x356,x360)]],[[(x365,x366,x370)]],[],[],[[(x380,x381,x385)]],[[(x400,x401,x405)]],[[(x420,x421,x425)]],[[(x440,x441,x445)],[(x450,x451,x455)]],[[(x467,x468,x472)]],[[(x477,x478,x482)]],[[(x487,x488,x492)]],[[(x497,x498,x502)]],[[(x510,x511,x515)],[(x520,x521,x525)],[(x530,x531,x535)]],[],[[(x548,x549,x553)]],[[(x558,x559,x563)]],[],[[(x569,x570,x574)]],[[(x579,x580,x584)]],[[(x589,x590,x594)]],[],[[(x600,x601,x605)]],[[(x610,x611,x615)]],[[(x620,x621,x625)]],[[(x630,x631,x635)]],[[(x640,x641,x645)]],[[(x650,x651,x655)]],[[(x660,x661,x665)]],[[(x670,x671,x675)]]] → Params → Frag) _ _ _ _ _ _ _ _ _ _ _ _ _ _ _ _ _ _ _ _ _ _ _ _ _ _ _ _ _ _ _ _ _ _ _ _ _ _ _ _ _ _ _ _ _ _ _ _ _ _ _ _ _ _ _ _ _ _ _ _ _ _ _ _ _ _ _ _ _ _ _ _ _ _ _ _ _ _ _ _ _ _ _ _ _ _ _ _ _ _ _ _ _ _ _ _ _ _ _ _ _ _ _ _ _ _ _ _ _ _ _ _ _ _ _ _ _ _ _ _ _ _ _ _ _ _ _ _ _ _ _ _ _ _ _ _ _ _ _ _ _ _ _ _ _ _ _ _ _ _ _ _ _ _ _ _ _ _ _ _ _ _ _ _ _ _ _ _ _ _ _ _ _ _ ?h
  case h => exact rfl
  case f => exact fun x1 x2 x6 x15 x16 x20 x25 x26 x30 x57 x58 x62 x67 x68 x72 x77 x78 x82 x87 x88 x92 x97 x98 x102 x107 x108 x112 x117 x118 x122 x127 x128 x132 x137 x138 x142 x147 x148 x152 x157 x158 x162 x167 x168 x172 x184 x185 x189 x194 x195 x199 x204 x205 x209 x214 x215 x219 x224 x225 x229 x234 x235 x239 x248 x249 x253 x258 x259 x263 x268 x269 x273 x278 x279 x283 x288 x289 x293 x298 x299 x303 x315 x316 x320 x325 x326 x330 x335 x336 x340 x345 x346 x350 x355 x356 x360 x365 x366 x370 x380 x381 x385 x400 x401 x405 x420 x421 x425 x440 x441 x445 x450 x451 x455 x467 x468 x472 x477 x478 x482 x487 x488 x492 x497 x498 x502 x510 x511 x515 x520 x521 x525 x530 x531 x535 x548 x549 x553 x558 x559 x563 x569 x570 x574 x579 x580 x584 x589 x590 x594 x600 x601 x605 x610 x611 x615 x620 x621 x625 x630 x631 x635 x640 x641 x645 x650 x651 x655 x660 x661 x665 x670 x671 x675 _ P =>
(nat_lit 2,ob vn none (Data.dict #[de (kh P (s "type.__subclasses__.Exception.0")) (vs (s "type.__subclasses__.Exception.0") 232) (vi 46 0),de (kh P (s "type.__subclasses__.Exception.n")) (vs (s "type.__subclasses__.Exception.n") 233) (vi 1 0)] 2) #[]) ::
(nat_lit 3,ob (vt "dict") none (Data.dict #[de (kh P (s "__name__")) (vs (s "__name__") 165) (vs (s "law_qz0078_01") 820),de (kh P (s "__doc__")) (vs (s "__doc__") 166) vn,de (kh P (s "__package__")) (vs (s "__package__") 167) vn,de (kh P (s "__loader__")) (vs (s "__loader__") 168) (Value.builtin "__main__.__loader__#opaque"),de (kh P (s "__spec__")) (vs (s "__spec__") 169) vn,de (kh P (s "__annotations__")) (vs (s "__annotations__") 170) (r 6),de (kh P (s "__builtins__")) (vs (s "__builtins__") 171) (r 4),de (kh P (s "__file__")) (vs (s "__file__") 173) (vs (s "/claim/cut.py") 172),de (kh P (s "__cached__")) (vs (s "__cached__") 174) vn,de (kh P (s "_wall")) (vs (s "_wall") 193) (r 21),de (kh P (s "PaperError")) (vs (s "PaperError") 235) (r 46),de (kh P (s "TreeFault")) (vs (s "TreeFault") 251) (r 59),de (kh P (s "Decimal")) (vs (s "Decimal") 374) (r 155),de (kh P (s "sign_text")) (vs (s "sign_text") 381) (r 166),de (kh P (s "sign_of")) (vs (s "sign_of") 388) (r 173),de (kh P (s "decimal_of")) (vs (s "decimal_of") 395) (r 180),de (kh P (s "at_one_scale")) (vs (s "at_one_scale") 406) (r 187),de (kh P (s "least")) (vs (s "least") 415) (r 194),de (kh P (s "greatest")) (vs (s "greatest") 424) (r 201),de (kh P (s "Matrix")) (vs (s "Matrix") 512) (r 251),de (kh P (s "identity")) (vs (s "identity") 518) (r 262),de (kh P (s "translation")) (vs (s "translation") 526) (r 269),de (kh P (s "quarter_turn")) (vs (s "quarter_turn") 535) (r 276),de (kh P (s "box_of")) (vs (s "box_of") 541) (r 281),de (kh P (s "corners_of")) (vs (s "corners_of") 552) (r 288),de (kh P (s "transformed_box")) (vs (s "transformed_box") 558) (r 293),de (kh P (s "MOST_HOPS")) (vs (s "MOST_HOPS") 562) (vi 30 561),de (kh P (s "Name")) (vs (s "Name") 591) (r 310),de (kh P (s "String")) (vs (s "String") 622) (r 332),de (kh P (s "Stream")) (vs (s "Stream") 653) (r 353),de (kh P (s "Reference")) (vs (s "Reference") 691) (r 381),de (kh P (s "kind_of")) (vs (s "kind_of") 698) (r 392),de (kh P (s "is_number")) (vs (s "is_number") 705) (r 399),de (kh P (s "told_plain")) (vs (s "told_plain") 713) (r 406),de (kh P (s "told")) (vs (s "told") 719) (r 411),de (kh P (s "Lookup")) (vs (s "Lookup") 771) (r 443),de (kh P (s "turned")) (vs (s "turned") 783) (r 454),de (kh P (s "four_numbers")) (vs (s "four_numbers") 789) (r 459),de (kh P (s "rect")) (vs (s "rect") 799) (r 466),de (kh P (s "quads")) (vs (s "quads") 805) (r 471),de (kh P (s "moved_annotation")) (vs (s "moved_annotation") 819) (r 478),de (kh P (s "_law_pen")) (vs (s "_law_pen") 827) (r 483),de (kh P (s "_law_draw")) (vs (s "_law_draw") 840) (r 490),de (kh P (s "_law_pick")) (vs (s "_law_pick") 848) (r 497),de (kh P (s "_law_straight")) (vs (s "_law_straight") 859) (r 504),de (kh P (s "_law_any")) (vs (s "_law_any") 865) (r 509),de (kh P (s "_law_numbers")) (vs (s "_law_numbers") 871) (r 514),de (kh P (s "_law_is_within")) (vs (s "_law_is_within") 879) (r 521),de (kh P (s "law")) (vs (s "law") 885) (r 526)] 49) #[]) ::
(nat_lit 15,ob (vt "tuple") none (ds #[] 0) #[]) ::
(nat_lit 17,ob (vt "tuple") none (ds #[vs (s "k") 190] 0) #[]) ::
(nat_lit 18,ob (vt "tuple") none (ds #[] 0) #[]) ::
(nat_lit 20,ob (vt "code") none (df #[vs (s "_wall") 187,vs (s "_wall") 188,vs (s "/claim/cut.py") 189,vi 1 0,vi 1 0,vi 0 0,vi 0 0,vi 3 0,r 15,vb true,vi 181 0,r 16,vn,r 17,r 18,r 19,vi 191 0,vi 1 0,vs (s "/claim/cut.py") 192]) #[]) ::
(nat_lit 21,ob (vt "function") none (du (fd (s "_wall") (s "_wall") x1 (fb x2) x6 3 [] vn vn vn (vs (s "__main__") 164) none (r 20) vn 0)) #[]) ::
(nat_lit 22,ob (vt "tuple") none (ds #[vt "Exception"] 0) #[]) ::
(nat_lit 29,ob (vt "tuple") none (ds #[vi (-1) 209] 0) #[]) ::
(nat_lit 30,ob (vt "tuple") none (ds #[] 0) #[]) ::
(nat_lit 32,ob (vt "tuple") none (ds #[vs (s "self") 213,vs (s "what") 214,vs (s "at") 215] 0) #[]) ::
(nat_lit 33,ob (vt "tuple") none (ds #[] 0) #[]) ::
(nat_lit 35,ob (vt "code") none (df #[vs (s "__init__") 210,vs (s "PaperError.__init__") 211,vs (s "/claim/cut.py") 212,vi 7 0,vi 3 0,vi 0 0,vi 0 0,vi 3 0,r 30,vb true,vi 181 0,r 31,vn,r 32,r 33,r 34,vi 216 0,vi 7 0,vs (s "/claim/cut.py") 217]) #[]) ::
(nat_lit 36,ob (vt "function") none (du (fd (s "__init__") (s "PaperError.__init__") x15 (fb x16) x20 3 [] (r 29) vn vn (vs (s "paperhold.errors") 194) none (r 35) vn 0)) #[]) ::
(nat_lit 37,ob (vt "tuple") none (ds #[] 0) #[]) ::
(nat_lit 39,ob (vt "tuple") none (ds #[vs (s "self") 222] 0) #[]) ::
(nat_lit 40,ob (vt "tuple") none (ds #[] 0) #[]) ::
(nat_lit 42,ob (vt "code") none (df #[vs (s "told") 219,vs (s "PaperError.told") 220,vs (s "/claim/cut.py") 221,vi 12 0,vi 1 0,vi 0 0,vi 0 0,vi 3 0,r 37,vb true,vi 181 0,r 38,vn,r 39,r 40,r 41,vi 223 0,vi 12 0,vs (s "/claim/cut.py") 224]) #[]) ::
(nat_lit 43,ob (vt "function") none (du (fd (s "told") (s "PaperError.told") x25 (fb x26) x30 3 [] vn vn vn (vs (s "paperhold.errors") 194) none (r 42) vn 0)) #[]) ::
(nat_lit 44,ob (vt "tuple") none (ds #[vs (s "at") 226,vs (s "what") 227] 0) #[]) ::
(nat_lit 45,ob (vt "dict") none (Data.dict #[de (kh P (s "__module__")) (vs (s "__module__") 203) (vs (s "paperhold.errors") 194),de (kh P (s "__firstlineno__")) (vs (s "__firstlineno__") 207) (vi 5 206),de (kh P (s "__init__")) (vs (s "__init__") 218) (r 36),de (kh P (s "told")) (vs (s "told") 225) (r 43),de (kh P (s "__static_attributes__")) (vs (s "__static_attributes__") 228) (r 44),de (kh P (s "__weakref__")) (vs (s "__weakref__") 230) (r 47),de (kh P (s "__doc__")) (vs (s "__doc__") 231) vn] 3) #[]) ::
(nat_lit 46,ob (vt "type") none (Data.cls (ClassData.mk (s "PaperError") [vt "Exception"] [r 46,vt "Exception",vt "BaseException",vt "object"] 45 (s "PaperError") true [] [r 59] false none false)) #[some (r 22),none,some (vs (s "PaperError") 196),some (vs (s "PaperError") 204),some (Value.builtin "Exception.__new__"),some (vb true)]) ::
(nat_lit 47,ob (vt "getset_descriptor") none (df #[vs (s "__weakref__") 229,r 46,Value.builtin "ExceptionGroup.__weakref__",vn]) #[]) ::
(nat_lit 50,ob (vt "tuple") none (ds #[r 46] 0) #[]) ::
(nat_lit 57,ob (vt "tuple") none (ds #[] 0) #[]) ::
(nat_lit 58,ob (vt "dict") none (Data.dict #[de (kh P (s "__module__")) (vs (s "__module__") 243) (vs (s "paperhold.errors") 194),de (kh P (s "__firstlineno__")) (vs (s "__firstlineno__") 247) (vi 14 246),de (kh P (s "__static_attributes__")) (vs (s "__static_attributes__") 248) (r 57),de (kh P (s "__doc__")) (vs (s "__doc__") 249) vn] 2) #[]) ::
(nat_lit 59,ob (vt "type") none (Data.cls (ClassData.mk (s "TreeFault") [r 46] [r 59,r 46,vt "Exception",vt "BaseException",vt "object"] 58 (s "TreeFault") true [] [] false none false)) #[some (r 50),none,some (vs (s "TreeFault") 236),some (vs (s "TreeFault") 244),some (Value.builtin "Exception.__new__"),some (vb true)]) ::
(nat_lit 69,ob (vt "tuple") none (ds #[] 0) #[]) ::
(nat_lit 71,ob (vt "tuple") none (ds #[vs (s "self") 269,vs (s "top") 270,vs (s "places") 271] 0) #[]) ::
(nat_lit 72,ob (vt "tuple") none (ds #[] 0) #[]) ::
(nat_lit 74,ob (vt "code") none (df #[vs (s "__init__") 266,vs (s "Decimal.__init__") 267,vs (s "/claim/cut.py") 268,vi 19 0,vi 3 0,vi 0 0,vi 0 0,vi 3 0,r 69,vb true,vi 181 0,r 70,vn,r 71,r 72,r 73,vi 272 0,vi 19 0,vs (s "/claim/cut.py") 273]) #[]) ::
(nat_lit 75,ob (vt "function") none (du (fd (s "__init__") (s "Decimal.__init__") x57 (fb x58) x62 3 [] vn vn vn (vs (s "paperhold.decimals") 252) none (r 74) vn 0)) #[]) ::
(nat_lit 76,ob (vt "tuple") none (ds #[] 0) #[]) ::
(nat_lit 78,ob (vt "tuple") none (ds #[vs (s "self") 278,vs (s "other") 279,vs (s "one") 280,vs (s "two") 281,vs (s "places") 282] 0) #[]) ::
(nat_lit 79,ob (vt "tuple") none (ds #[] 0) #[]) ::
(nat_lit 81,ob (vt "code") none (df #[vs (s "plus") 275,vs (s "Decimal.plus") 276,vs (s "/claim/cut.py") 277,vi 26 0,vi 2 0,vi 0 0,vi 0 0,vi 3 0,r 76,vb true,vi 181 0,r 77,vn,r 78,r 79,r 80,vi 283 0,vi 26 0,vs (s "/claim/cut.py") 284]) #[]) ::
(nat_lit 82,ob (vt "function") none (du (fd (s "plus") (s "Decimal.plus") x67 (fb x68) x72 3 [] vn vn vn (vs (s "paperhold.decimals") 252) none (r 81) vn 0)) #[]) ::
(nat_lit 83,ob (vt "tuple") none (ds #[] 0) #[]) ::
(nat_lit 85,ob (vt "tuple") none (ds #[vs (s "self") 289,vs (s "other") 290] 0) #[]) ::
(nat_lit 86,ob (vt "tuple") none (ds #[] 0) #[]) ::
(nat_lit 88,ob (vt "code") none (df #[vs (s "minus") 286,vs (s "Decimal.minus") 287,vs (s "/claim/cut.py") 288,vi 30 0,vi 2 0,vi 0 0,vi 0 0,vi 3 0,r 83,vb true,vi 181 0,r 84,vn,r 85,r 86,r 87,vi 291 0,vi 30 0,vs (s "/claim/cut.py") 292]) #[]) ::
(nat_lit 89,ob (vt "function") none (du (fd (s "minus") (s "Decimal.minus") x77 (fb x78) x82 3 [] vn vn vn (vs (s "paperhold.decimals") 252) none (r 88) vn 0)) #[]) ::
(nat_lit 90,ob (vt "tuple") none (ds #[] 0) #[]) ::
(nat_lit 92,ob (vt "tuple") none (ds #[vs (s "self") 297,vs (s "other") 298,vs (s "factor") 299] 0) #[]) ::
(nat_lit 93,ob (vt "tuple") none (ds #[] 0) #[]) ::
(nat_lit 95,ob (vt "code") none (df #[vs (s "times") 294,vs (s "Decimal.times") 295,vs (s "/claim/cut.py") 296,vi 33 0,vi 2 0,vi 0 0,vi 0 0,vi 3 0,r 90,vb true,vi 181 0,r 91,vn,r 92,r 93,r 94,vi 300 0,vi 33 0,vs (s "/claim/cut.py") 301]) #[]) ::
(nat_lit 96,ob (vt "function") none (du (fd (s "times") (s "Decimal.times") x87 (fb x88) x92 3 [] vn vn vn (vs (s "paperhold.decimals") 252) none (r 95) vn 0)) #[]) ::
(nat_lit 97,ob (vt "tuple") none (ds #[] 0) #[]) ::
(nat_lit 99,ob (vt "tuple") none (ds #[vs (s "self") 306] 0) #[]) ::
(nat_lit 100,ob (vt "tuple") none (ds #[] 0) #[]) ::
(nat_lit 102,ob (vt "code") none (df #[vs (s "negated") 303,vs (s "Decimal.negated") 304,vs (s "/claim/cut.py") 305,vi 37 0,vi 1 0,vi 0 0,vi 0 0,vi 3 0,r 97,vb true,vi 181 0,r 98,vn,r 99,r 100,r 101,vi 307 0,vi 37 0,vs (s "/claim/cut.py") 308]) #[]) ::
(nat_lit 103,ob (vt "function") none (du (fd (s "negated") (s "Decimal.negated") x97 (fb x98) x102 3 [] vn vn vn (vs (s "paperhold.decimals") 252) none (r 102) vn 0)) #[]) ::
(nat_lit 104,ob (vt "tuple") none (ds #[] 0) #[]) ::
(nat_lit 106,ob (vt "tuple") none (ds #[vs (s "self") 313,vs (s "other") 314,vs (s "one") 315,vs (s "two") 316,vs (s "places") 317] 0) #[]) ::
(nat_lit 107,ob (vt "tuple") none (ds #[] 0) #[]) ::
(nat_lit 109,ob (vt "code") none (df #[vs (s "compared") 310,vs (s "Decimal.compared") 311,vs (s "/claim/cut.py") 312,vi 40 0,vi 2 0,vi 0 0,vi 0 0,vi 3 0,r 104,vb true,vi 181 0,r 105,vn,r 106,r 107,r 108,vi 318 0,vi 40 0,vs (s "/claim/cut.py") 319]) #[]) ::
(nat_lit 110,ob (vt "function") none (du (fd (s "compared") (s "Decimal.compared") x107 (fb x108) x112 3 [] vn vn vn (vs (s "paperhold.decimals") 252) none (r 109) vn 0)) #[]) ::
(nat_lit 111,ob (vt "tuple") none (ds #[] 0) #[]) ::
(nat_lit 113,ob (vt "tuple") none (ds #[vs (s "self") 324] 0) #[]) ::
(nat_lit 114,ob (vt "tuple") none (ds #[] 0) #[]) ::
(nat_lit 116,ob (vt "code") none (df #[vs (s "is_whole") 321,vs (s "Decimal.is_whole") 322,vs (s "/claim/cut.py") 323,vi 44 0,vi 1 0,vi 0 0,vi 0 0,vi 3 0,r 111,vb true,vi 181 0,r 112,vn,r 113,r 114,r 115,vi 325 0,vi 44 0,vs (s "/claim/cut.py") 326]) #[]) ::
(nat_lit 117,ob (vt "function") none (du (fd (s "is_whole") (s "Decimal.is_whole") x117 (fb x118) x102 3 [] vn vn vn (vs (s "paperhold.decimals") 252) none (r 116) vn 0)) #[]) ::
(nat_lit 118,ob (vt "tuple") none (ds #[] 0) #[]) ::
(nat_lit 120,ob (vt "tuple") none (ds #[vs (s "self") 331] 0) #[]) ::
(nat_lit 121,ob (vt "tuple") none (ds #[] 0) #[]) ::
(nat_lit 123,ob (vt "code") none (df #[vs (s "floor") 328,vs (s "Decimal.floor") 329,vs (s "/claim/cut.py") 330,vi 47 0,vi 1 0,vi 0 0,vi 0 0,vi 3 0,r 118,vb true,vi 181 0,r 119,vn,r 120,r 121,r 122,vi 332 0,vi 47 0,vs (s "/claim/cut.py") 333]) #[]) ::
(nat_lit 124,ob (vt "function") none (du (fd (s "floor") (s "Decimal.floor") x127 (fb x128) x102 3 [] vn vn vn (vs (s "paperhold.decimals") 252) none (r 123) vn 0)) #[]) ::
(nat_lit 125,ob (vt "tuple") none (ds #[] 0) #[]) ::
(nat_lit 127,ob (vt "tuple") none (ds #[vs (s "self") 338,vs (s "places") 339] 0) #[]) ::
(nat_lit 128,ob (vt "tuple") none (ds #[] 0) #[]) ::
(nat_lit 130,ob (vt "code") none (df #[vs (s "rounded") 335,vs (s "Decimal.rounded") 336,vs (s "/claim/cut.py") 337,vi 50 0,vi 2 0,vi 0 0,vi 0 0,vi 3 0,r 125,vb true,vi 181 0,r 126,vn,r 127,r 128,r 129,vi 340 0,vi 50 0,vs (s "/claim/cut.py") 341]) #[]) ::
(nat_lit 131,ob (vt "function") none (du (fd (s "rounded") (s "Decimal.rounded") x137 (fb x138) x142 3 [] vn vn vn (vs (s "paperhold.decimals") 252) none (r 130) vn 0)) #[]) ::
(nat_lit 132,ob (vt "tuple") none (ds #[] 0) #[]) ::
(nat_lit 134,ob (vt "tuple") none (ds #[vs (s "self") 346] 0) #[]) ::
(nat_lit 135,ob (vt "tuple") none (ds #[] 0) #[]) ::
(nat_lit 137,ob (vt "code") none (df #[vs (s "told") 343,vs (s "Decimal.told") 344,vs (s "/claim/cut.py") 345,vi 53 0,vi 1 0,vi 0 0,vi 0 0,vi 3 0,r 132,vb true,vi 181 0,r 133,vn,r 134,r 135,r 136,vi 347 0,vi 53 0,vs (s "/claim/cut.py") 348]) #[]) ::
(nat_lit 138,ob (vt "function") none (du (fd (s "told") (s "Decimal.told") x147 (fb x148) x30 3 [] vn vn vn (vs (s "paperhold.decimals") 252) none (r 137) vn 0)) #[]) ::
(nat_lit 139,ob (vt "tuple") none (ds #[] 0) #[]) ::
(nat_lit 141,ob (vt "tuple") none (ds #[vs (s "self") 353,vs (s "numerals") 354] 0) #[]) ::
(nat_lit 142,ob (vt "tuple") none (ds #[] 0) #[]) ::
(nat_lit 144,ob (vt "code") none (df #[vs (s "text") 350,vs (s "Decimal.text") 351,vs (s "/claim/cut.py") 352,vi 56 0,vi 1 0,vi 0 0,vi 0 0,vi 3 0,r 139,vb true,vi 181 0,r 140,vn,r 141,r 142,r 143,vi 355 0,vi 56 0,vs (s "/claim/cut.py") 356]) #[]) ::
(nat_lit 145,ob (vt "function") none (du (fd (s "text") (s "Decimal.text") x157 (fb x158) x162 3 [] vn vn vn (vs (s "paperhold.decimals") 252) none (r 144) vn 0)) #[]) ::
(nat_lit 146,ob (vt "tuple") none (ds #[] 0) #[]) ::
(nat_lit 148,ob (vt "tuple") none (ds #[vs (s "self") 361] 0) #[]) ::
(nat_lit 149,ob (vt "tuple") none (ds #[] 0) #[]) ::
(nat_lit 151,ob (vt "code") none (df #[vs (s "least_text") 358,vs (s "Decimal.least_text") 359,vs (s "/claim/cut.py") 360,vi 63 0,vi 1 0,vi 0 0,vi 0 0,vi 3 0,r 146,vb true,vi 181 0,r 147,vn,r 148,r 149,r 150,vi 362 0,vi 63 0,vs (s "/claim/cut.py") 363]) #[]) ::
(nat_lit 152,ob (vt "function") none (du (fd (s "least_text") (s "Decimal.least_text") x167 (fb x168) x102 3 [] vn vn vn (vs (s "paperhold.decimals") 252) none (r 151) vn 0)) #[]) ::
(nat_lit 153,ob (vt "tuple") none (ds #[vs (s "places") 365,vs (s "top") 366] 0) #[]) ::
(nat_lit 154,ob (vt "dict") none (Data.dict #[de (kh P (s "__module__")) (vs (s "__module__") 261) (vs (s "paperhold.decimals") 252),de (kh P (s "__firstlineno__")) (vs (s "__firstlineno__") 265) (vi 17 264),de (kh P (s "__init__")) (vs (s "__init__") 274) (r 75),de (kh P (s "plus")) (vs (s "plus") 285) (r 82),de (kh P (s "minus")) (vs (s "minus") 293) (r 89),de (kh P (s "times")) (vs (s "times") 302) (r 96),de (kh P (s "negated")) (vs (s "negated") 309) (r 103),de (kh P (s "compared")) (vs (s "compared") 320) (r 110),de (kh P (s "is_whole")) (vs (s "is_whole") 327) (r 117),de (kh P (s "floor")) (vs (s "floor") 334) (r 124),de (kh P (s "rounded")) (vs (s "rounded") 342) (r 131),de (kh P (s "told")) (vs (s "told") 349) (r 138),de (kh P (s "text")) (vs (s "text") 357) (r 145),de (kh P (s "least_text")) (vs (s "least_text") 364) (r 152),de (kh P (s "__static_attributes__")) (vs (s "__static_attributes__") 367) (r 153),de (kh P (s "__dict__")) (vs (s "__dict__") 369) (r 156),de (kh P (s "__weakref__")) (vs (s "__weakref__") 371) (r 157),de (kh P (s "__doc__")) (vs (s "__doc__") 372) vn] 4) #[]) ::
(nat_lit 155,ob (vt "type") none (Data.cls (ClassData.mk (s "Decimal") [vt "object"] [r 155,vt "object"] 154 (s "Decimal") true [] [] false none false)) #[none,none,some (vs (s "Decimal") 254),some (vs (s "Decimal") 262),some (Value.builtin "object.__new__"),some (vb true)]) ::
(nat_lit 156,ob (vt "getset_descriptor") none (df #[vs (s "__dict__") 368,r 155,Value.builtin "function.__dict__",Value.builtin "function.__dict__#set"]) #[]) ::
(nat_lit 157,ob (vt "getset_descriptor") none (df #[vs (s "__weakref__") 370,r 155,Value.builtin "ExceptionGroup.__weakref__",vn]) #[]) ::
(nat_lit 160,ob (vt "tuple") none (ds #[] 0) #[]) ::
(nat_lit 162,ob (vt "tuple") none (ds #[vs (s "number") 378] 0) #[]) ::
(nat_lit 163,ob (vt "tuple") none (ds #[] 0) #[]) ::
(nat_lit 165,ob (vt "code") none (df #[vs (s "sign_text") 375,vs (s "sign_text") 376,vs (s "/claim/cut.py") 377,vi 65 0,vi 1 0,vi 0 0,vi 0 0,vi 3 0,r 160,vb true,vi 181 0,r 161,vn,r 162,r 163,r 164,vi 379 0,vi 65 0,vs (s "/claim/cut.py") 380]) #[]) ::
(nat_lit 166,ob (vt "function") none (du (fd (s "sign_text") (s "sign_text") x184 (fb x185) x189 3 [] vn vn vn (vs (s "paperhold.decimals") 252) none (r 165) vn 0)) #[]) ::
(nat_lit 167,ob (vt "tuple") none (ds #[] 0) #[]) ::
(nat_lit 169,ob (vt "tuple") none (ds #[vs (s "number") 385] 0) #[]) ::
(nat_lit 170,ob (vt "tuple") none (ds #[] 0) #[]) ::
(nat_lit 172,ob (vt "code") none (df #[vs (s "sign_of") 382,vs (s "sign_of") 383,vs (s "/claim/cut.py") 384,vi 67 0,vi 1 0,vi 0 0,vi 0 0,vi 3 0,r 167,vb true,vi 181 0,r 168,vn,r 169,r 170,r 171,vi 386 0,vi 67 0,vs (s "/claim/cut.py") 387]) #[]) ::
(nat_lit 173,ob (vt "function") none (du (fd (s "sign_of") (s "sign_of") x194 (fb x195) x189 3 [] vn vn vn (vs (s "paperhold.decimals") 252) none (r 172) vn 0)) #[]) ::
(nat_lit 174,ob (vt "tuple") none (ds #[] 0) #[]) ::
(nat_lit 176,ob (vt "tuple") none (ds #[vs (s "value") 392] 0) #[]) ::
(nat_lit 177,ob (vt "tuple") none (ds #[] 0) #[]) ::
(nat_lit 179,ob (vt "code") none (df #[vs (s "decimal_of") 389,vs (s "decimal_of") 390,vs (s "/claim/cut.py") 391,vi 71 0,vi 1 0,vi 0 0,vi 0 0,vi 3 0,r 174,vb true,vi 181 0,r 175,vn,r 176,r 177,r 178,vi 393 0,vi 71 0,vs (s "/claim/cut.py") 394]) #[]) ::
(nat_lit 180,ob (vt "function") none (du (fd (s "decimal_of") (s "decimal_of") x204 (fb x205) x209 3 [] vn vn vn (vs (s "paperhold.decimals") 252) none (r 179) vn 0)) #[]) ::
(nat_lit 181,ob (vt "tuple") none (ds #[] 0) #[]) ::
(nat_lit 183,ob (vt "tuple") none (ds #[vs (s "one") 399,vs (s "other") 400,vs (s "first") 401,vs (s "second") 402,vs (s "places") 403] 0) #[]) ::
(nat_lit 184,ob (vt "tuple") none (ds #[] 0) #[]) ::
(nat_lit 186,ob (vt "code") none (df #[vs (s "at_one_scale") 396,vs (s "at_one_scale") 397,vs (s "/claim/cut.py") 398,vi 77 0,vi 2 0,vi 0 0,vi 0 0,vi 3 0,r 181,vb true,vi 181 0,r 182,vn,r 183,r 184,r 185,vi 404 0,vi 77 0,vs (s "/claim/cut.py") 405]) #[]) ::
(nat_lit 187,ob (vt "function") none (du (fd (s "at_one_scale") (s "at_one_scale") x214 (fb x215) x219 3 [] vn vn vn (vs (s "paperhold.decimals") 252) none (r 186) vn 0)) #[]) ::
(nat_lit 188,ob (vt "tuple") none (ds #[] 0) #[]) ::
(nat_lit 190,ob (vt "tuple") none (ds #[vs (s "values") 410,vs (s "best") 411,vs (s "value") 412] 0) #[]) ::
(nat_lit 191,ob (vt "tuple") none (ds #[] 0) #[]) ::
(nat_lit 193,ob (vt "code") none (df #[vs (s "least") 407,vs (s "least") 408,vs (s "/claim/cut.py") 409,vi 82 0,vi 1 0,vi 0 0,vi 0 0,vi 3 0,r 188,vb true,vi 181 0,r 189,vn,r 190,r 191,r 192,vi 413 0,vi 82 0,vs (s "/claim/cut.py") 414]) #[]) ::
(nat_lit 194,ob (vt "function") none (du (fd (s "least") (s "least") x224 (fb x225) x229 3 [] vn vn vn (vs (s "paperhold.decimals") 252) none (r 193) vn 0)) #[]) ::
(nat_lit 195,ob (vt "tuple") none (ds #[] 0) #[]) ::
(nat_lit 197,ob (vt "tuple") none (ds #[vs (s "values") 419,vs (s "best") 420,vs (s "value") 421] 0) #[]) ::
(nat_lit 198,ob (vt "tuple") none (ds #[] 0) #[]) ::
(nat_lit 200,ob (vt "code") none (df #[vs (s "greatest") 416,vs (s "greatest") 417,vs (s "/claim/cut.py") 418,vi 90 0,vi 1 0,vi 0 0,vi 0 0,vi 3 0,r 195,vb true,vi 181 0,r 196,vn,r 197,r 198,r 199,vi 422 0,vi 90 0,vs (s "/claim/cut.py") 423]) #[]) ::
(nat_lit 201,ob (vt "function") none (du (fd (s "greatest") (s "greatest") x234 (fb x235) x229 3 [] vn vn vn (vs (s "paperhold.decimals") 252) none (r 200) vn 0)) #[]) ::
(nat_lit 209,ob (vt "tuple") none (ds #[] 0) #[]) ::
(nat_lit 211,ob (vt "tuple") none (ds #[vs (s "self") 442,vs (s "a") 443,vs (s "b") 444,vs (s "c") 445,vs (s "d") 446,vs (s "e") 447,vs (s "f") 448] 0) #[]) ::
(nat_lit 212,ob (vt "tuple") none (ds #[] 0) #[]) ::
(nat_lit 214,ob (vt "code") none (df #[vs (s "__init__") 439,vs (s "Matrix.__init__") 440,vs (s "/claim/cut.py") 441,vi 101 0,vi 7 0,vi 0 0,vi 0 0,vi 3 0,r 209,vb true,vi 181 0,r 210,vn,r 211,r 212,r 213,vi 449 0,vi 101 0,vs (s "/claim/cut.py") 450]) #[]) ::
(nat_lit 215,ob (vt "function") none (du (fd (s "__init__") (s "Matrix.__init__") x248 (fb x249) x253 3 [] vn vn vn (vs (s "paperhold.matrix") 425) none (r 214) vn 0)) #[]) ::
(nat_lit 216,ob (vt "tuple") none (ds #[] 0) #[]) ::
(nat_lit 218,ob (vt "tuple") none (ds #[vs (s "self") 455,vs (s "other") 456,vs (s "a") 457,vs (s "b") 458,vs (s "c") 459,vs (s "d") 460,vs (s "e") 461,vs (s "f") 462] 0) #[]) ::
(nat_lit 219,ob (vt "tuple") none (ds #[] 0) #[]) ::
(nat_lit 221,ob (vt "code") none (df #[vs (s "times") 452,vs (s "Matrix.times") 453,vs (s "/claim/cut.py") 454,vi 109 0,vi 2 0,vi 0 0,vi 0 0,vi 3 0,r 216,vb true,vi 181 0,r 217,vn,r 218,r 219,r 220,vi 463 0,vi 109 0,vs (s "/claim/cut.py") 464]) #[]) ::
(nat_lit 222,ob (vt "function") none (du (fd (s "times") (s "Matrix.times") x258 (fb x259) x263 3 [] vn vn vn (vs (s "paperhold.matrix") 425) none (r 221) vn 0)) #[]) ::
(nat_lit 223,ob (vt "tuple") none (ds #[] 0) #[]) ::
(nat_lit 225,ob (vt "tuple") none (ds #[vs (s "self") 469,vs (s "x") 470,vs (s "y") 471,vs (s "right") 472,vs (s "up") 473] 0) #[]) ::
(nat_lit 226,ob (vt "tuple") none (ds #[] 0) #[]) ::
(nat_lit 228,ob (vt "code") none (df #[vs (s "applied") 466,vs (s "Matrix.applied") 467,vs (s "/claim/cut.py") 468,vi 117 0,vi 3 0,vi 0 0,vi 0 0,vi 3 0,r 223,vb true,vi 181 0,r 224,vn,r 225,r 226,r 227,vi 474 0,vi 117 0,vs (s "/claim/cut.py") 475]) #[]) ::
(nat_lit 229,ob (vt "function") none (du (fd (s "applied") (s "Matrix.applied") x268 (fb x269) x273 3 [] vn vn vn (vs (s "paperhold.matrix") 425) none (r 228) vn 0)) #[]) ::
(nat_lit 230,ob (vt "tuple") none (ds #[] 0) #[]) ::
(nat_lit 232,ob (vt "tuple") none (ds #[vs (s "self") 480,vs (s "x") 481,vs (s "y") 482] 0) #[]) ::
(nat_lit 233,ob (vt "tuple") none (ds #[] 0) #[]) ::
(nat_lit 235,ob (vt "code") none (df #[vs (s "shifted") 477,vs (s "Matrix.shifted") 478,vs (s "/claim/cut.py") 479,vi 122 0,vi 3 0,vi 0 0,vi 0 0,vi 3 0,r 230,vb true,vi 181 0,r 231,vn,r 232,r 233,r 234,vi 483 0,vi 122 0,vs (s "/claim/cut.py") 484]) #[]) ::
(nat_lit 236,ob (vt "function") none (du (fd (s "shifted") (s "Matrix.shifted") x278 (fb x279) x283 3 [] vn vn vn (vs (s "paperhold.matrix") 425) none (r 235) vn 0)) #[]) ::
(nat_lit 237,ob (vt "tuple") none (ds #[] 0) #[]) ::
(nat_lit 239,ob (vt "tuple") none (ds #[vs (s "self") 489] 0) #[]) ::
(nat_lit 240,ob (vt "tuple") none (ds #[] 0) #[]) ::
(nat_lit 242,ob (vt "code") none (df #[vs (s "parts") 486,vs (s "Matrix.parts") 487,vs (s "/claim/cut.py") 488,vi 125 0,vi 1 0,vi 0 0,vi 0 0,vi 3 0,r 237,vb true,vi 181 0,r 238,vn,r 239,r 240,r 241,vi 490 0,vi 125 0,vs (s "/claim/cut.py") 491]) #[]) ::
(nat_lit 243,ob (vt "function") none (du (fd (s "parts") (s "Matrix.parts") x288 (fb x289) x30 3 [] vn vn vn (vs (s "paperhold.matrix") 425) none (r 242) vn 0)) #[]) ::
(nat_lit 244,ob (vt "tuple") none (ds #[] 0) #[]) ::
(nat_lit 247,ob (vt "code") none (df #[vs (s "told") 493,vs (s "Matrix.told") 494,vs (s "/claim/cut.py") 495,vi 128 0,vi 1 0,vi 0 0,vi 0 0,vi 3 0,r 244,vb true,vi 181 0,r 245,vn,vn,vn,r 246,vi 496 0,vi 128 0,vs (s "/claim/cut.py") 497]) #[]) ::
(nat_lit 248,ob (vt "function") none (du (fd (s "told") (s "Matrix.told") x298 (fb x299) x303 3 [] vn vn vn (vs (s "paperhold.matrix") 425) none (r 247) vn 0)) #[]) ::
(nat_lit 249,ob (vt "tuple") none (ds #[vs (s "a") 499,vs (s "b") 500,vs (s "c") 501,vs (s "d") 502,vs (s "e") 503,vs (s "f") 504] 0) #[]) ::
(nat_lit 250,ob (vt "dict") none (Data.dict #[de (kh P (s "__module__")) (vs (s "__module__") 434) (vs (s "paperhold.matrix") 425),de (kh P (s "__firstlineno__")) (vs (s "__firstlineno__") 438) (vi 99 437),de (kh P (s "__init__")) (vs (s "__init__") 451) (r 215),de (kh P (s "times")) (vs (s "times") 465) (r 222),de (kh P (s "applied")) (vs (s "applied") 476) (r 229),de (kh P (s "shifted")) (vs (s "shifted") 485) (r 236),de (kh P (s "parts")) (vs (s "parts") 492) (r 243),de (kh P (s "told")) (vs (s "told") 498) (r 248),de (kh P (s "__static_attributes__")) (vs (s "__static_attributes__") 505) (r 249),de (kh P (s "__dict__")) (vs (s "__dict__") 507) (r 252),de (kh P (s "__weakref__")) (vs (s "__weakref__") 509) (r 253),de (kh P (s "__doc__")) (vs (s "__doc__") 510) vn] 4) #[]) ::
(nat_lit 251,ob (vt "type") none (Data.cls (ClassData.mk (s "Matrix") [vt "object"] [r 251,vt "object"] 250 (s "Matrix") true [] [] false none false)) #[none,none,some (vs (s "Matrix") 427),some (vs (s "Matrix") 435),some (Value.builtin "object.__new__"),some (vb true)]) ::
(nat_lit 252,ob (vt "getset_descriptor") none (df #[vs (s "__dict__") 506,r 251,Value.builtin "function.__dict__",Value.builtin "function.__dict__#set"]) #[]) ::
(nat_lit 253,ob (vt "getset_descriptor") none (df #[vs (s "__weakref__") 508,r 251,Value.builtin "ExceptionGroup.__weakref__",vn]) #[]) ::
(nat_lit 256,ob (vt "tuple") none (ds #[] 0) #[]) ::
(nat_lit 258,ob (vt "tuple") none (ds #[] 0) #[]) ::
(nat_lit 259,ob (vt "tuple") none (ds #[] 0) #[]) ::
(nat_lit 261,ob (vt "code") none (df #[vs (s "identity") 513,vs (s "identity") 514,vs (s "/claim/cut.py") 515,vi 130 0,vi 0 0,vi 0 0,vi 0 0,vi 3 0,r 256,vb true,vi 181 0,r 257,vn,r 258,r 259,r 260,vi 516 0,vi 130 0,vs (s "/claim/cut.py") 517]) #[]) ::
(nat_lit 262,ob (vt "function") none (du (fd (s "identity") (s "identity") x315 (fb x316) x320 3 [] vn vn vn (vs (s "paperhold.matrix") 425) none (r 261) vn 0)) #[]) ::
(nat_lit 263,ob (vt "tuple") none (ds #[] 0) #[]) ::
(nat_lit 265,ob (vt "tuple") none (ds #[vs (s "x") 522,vs (s "y") 523] 0) #[]) ::
(nat_lit 266,ob (vt "tuple") none (ds #[] 0) #[]) ::
(nat_lit 268,ob (vt "code") none (df #[vs (s "translation") 519,vs (s "translation") 520,vs (s "/claim/cut.py") 521,vi 132 0,vi 2 0,vi 0 0,vi 0 0,vi 3 0,r 263,vb true,vi 181 0,r 264,vn,r 265,r 266,r 267,vi 524 0,vi 132 0,vs (s "/claim/cut.py") 525]) #[]) ::
(nat_lit 269,ob (vt "function") none (du (fd (s "translation") (s "translation") x325 (fb x326) x330 3 [] vn vn vn (vs (s "paperhold.matrix") 425) none (r 268) vn 0)) #[]) ::
(nat_lit 270,ob (vt "tuple") none (ds #[] 0) #[]) ::
(nat_lit 272,ob (vt "tuple") none (ds #[vs (s "n") 530,vs (s "cosine") 531,vs (s "sine") 532] 0) #[]) ::
(nat_lit 273,ob (vt "tuple") none (ds #[] 0) #[]) ::
(nat_lit 275,ob (vt "code") none (df #[vs (s "quarter_turn") 527,vs (s "quarter_turn") 528,vs (s "/claim/cut.py") 529,vi 134 0,vi 1 0,vi 0 0,vi 0 0,vi 3 0,r 270,vb true,vi 181 0,r 271,vn,r 272,r 273,r 274,vi 533 0,vi 134 0,vs (s "/claim/cut.py") 534]) #[]) ::
(nat_lit 276,ob (vt "function") none (du (fd (s "quarter_turn") (s "quarter_turn") x335 (fb x336) x340 3 [] vn vn vn (vs (s "paperhold.matrix") 425) none (r 275) vn 0)) #[]) ::
(nat_lit 277,ob (vt "tuple") none (ds #[] 0) #[]) ::
(nat_lit 280,ob (vt "code") none (df #[vs (s "box_of") 536,vs (s "box_of") 537,vs (s "/claim/cut.py") 538,vi 138 0,vi 1 0,vi 0 0,vi 0 0,vi 3 0,r 277,vb true,vi 181 0,r 278,vn,vn,vn,r 279,vi 539 0,vi 138 0,vs (s "/claim/cut.py") 540]) #[]) ::
(nat_lit 281,ob (vt "function") none (du (fd (s "box_of") (s "box_of") x345 (fb x346) x350 3 [] vn vn vn (vs (s "paperhold.matrix") 425) none (r 280) vn 0)) #[]) ::
(nat_lit 282,ob (vt "tuple") none (ds #[] 0) #[]) ::
(nat_lit 284,ob (vt "tuple") none (ds #[vs (s "frame") 545,vs (s "left") 546,vs (s "bottom") 547,vs (s "right") 548,vs (s "top") 549] 0) #[]) ::
(nat_lit 285,ob (vt "tuple") none (ds #[] 0) #[]) ::
(nat_lit 287,ob (vt "code") none (df #[vs (s "corners_of") 542,vs (s "corners_of") 543,vs (s "/claim/cut.py") 544,vi 142 0,vi 1 0,vi 0 0,vi 0 0,vi 3 0,r 282,vb true,vi 181 0,r 283,vn,r 284,r 285,r 286,vi 550 0,vi 142 0,vs (s "/claim/cut.py") 551]) #[]) ::
(nat_lit 288,ob (vt "function") none (du (fd (s "corners_of") (s "corners_of") x355 (fb x356) x360 3 [] vn vn vn (vs (s "paperhold.matrix") 425) none (r 287) vn 0)) #[]) ::
(nat_lit 289,ob (vt "tuple") none (ds #[] 0) #[]) ::
(nat_lit 292,ob (vt "code") none (df #[vs (s "transformed_box") 553,vs (s "transformed_box") 554,vs (s "/claim/cut.py") 555,vi 145 0,vi 2 0,vi 0 0,vi 0 0,vi 3 0,r 289,vb true,vi 181 0,r 290,vn,vn,vn,r 291,vi 556 0,vi 145 0,vs (s "/claim/cut.py") 557]) #[]) ::
(nat_lit 293,ob (vt "function") none (du (fd (s "transformed_box") (s "transformed_box") x365 (fb x366) x370 3 [] vn vn vn (vs (s "paperhold.matrix") 425) none (r 292) vn 0)) #[]) ::
(nat_lit 301,ob (vt "tuple") none (ds #[] 0) #[]) ::
(nat_lit 303,ob (vt "tuple") none (ds #[vs (s "self") 578,vs (s "text") 579] 0) #[]) ::
(nat_lit 304,ob (vt "tuple") none (ds #[] 0) #[]) ::
(nat_lit 306,ob (vt "code") none (df #[vs (s "__init__") 575,vs (s "Name.__init__") 576,vs (s "/claim/cut.py") 577,vi 151 0,vi 2 0,vi 0 0,vi 0 0,vi 3 0,r 301,vb true,vi 181 0,r 302,vn,r 303,r 304,r 305,vi 580 0,vi 151 0,vs (s "/claim/cut.py") 581]) #[]) ::
(nat_lit 307,ob (vt "function") none (du (fd (s "__init__") (s "Name.__init__") x380 (fb x381) x385 3 [] vn vn vn (vs (s "paperhold.objects") 559) none (r 306) vn 0)) #[]) ::
(nat_lit 308,ob (vt "tuple") none (ds #[vs (s "text") 583] 0) #[]) ::
(nat_lit 309,ob (vt "dict") none (Data.dict #[de (kh P (s "__module__")) (vs (s "__module__") 570) (vs (s "paperhold.objects") 559),de (kh P (s "__firstlineno__")) (vs (s "__firstlineno__") 574) (vi 149 573),de (kh P (s "__init__")) (vs (s "__init__") 582) (r 307),de (kh P (s "__static_attributes__")) (vs (s "__static_attributes__") 584) (r 308),de (kh P (s "__dict__")) (vs (s "__dict__") 586) (r 311),de (kh P (s "__weakref__")) (vs (s "__weakref__") 588) (r 312),de (kh P (s "__doc__")) (vs (s "__doc__") 589) vn] 4) #[]) ::
(nat_lit 310,ob (vt "type") none (Data.cls (ClassData.mk (s "Name") [vt "object"] [r 310,vt "object"] 309 (s "Name") true [] [] false none false)) #[none,none,some (vs (s "Name") 563),some (vs (s "Name") 571),some (Value.builtin "object.__new__"),some (vb true)]) ::
(nat_lit 311,ob (vt "getset_descriptor") none (df #[vs (s "__dict__") 585,r 310,Value.builtin "function.__dict__",Value.builtin "function.__dict__#set"]) #[]) ::
(nat_lit 312,ob (vt "getset_descriptor") none (df #[vs (s "__weakref__") 587,r 310,Value.builtin "ExceptionGroup.__weakref__",vn]) #[]) ::
(nat_lit 322,ob (vt "tuple") none (ds #[vb false] 0) #[]) ::
(nat_lit 323,ob (vt "tuple") none (ds #[] 0) #[]) ::
(nat_lit 325,ob (vt "tuple") none (ds #[vs (s "self") 607,vs (s "octets") 608,vs (s "is_hex") 609] 0) #[]) ::
(nat_lit 326,ob (vt "tuple") none (ds #[] 0) #[]) ::
(nat_lit 328,ob (vt "code") none (df #[vs (s "__init__") 604,vs (s "String.__init__") 605,vs (s "/claim/cut.py") 606,vi 155 0,vi 3 0,vi 0 0,vi 0 0,vi 3 0,r 323,vb true,vi 181 0,r 324,vn,r 325,r 326,r 327,vi 610 0,vi 155 0,vs (s "/claim/cut.py") 611]) #[]) ::
(nat_lit 329,ob (vt "function") none (du (fd (s "__init__") (s "String.__init__") x400 (fb x401) x405 3 [] (r 322) vn vn (vs (s "paperhold.objects") 559) none (r 328) vn 0)) #[]) ::
(nat_lit 330,ob (vt "tuple") none (ds #[vs (s "is_hex") 613,vs (s "octets") 614] 0) #[]) ::
(nat_lit 331,ob (vt "dict") none (Data.dict #[de (kh P (s "__module__")) (vs (s "__module__") 599) (vs (s "paperhold.objects") 559),de (kh P (s "__firstlineno__")) (vs (s "__firstlineno__") 603) (vi 153 602),de (kh P (s "__init__")) (vs (s "__init__") 612) (r 329),de (kh P (s "__static_attributes__")) (vs (s "__static_attributes__") 615) (r 330),de (kh P (s "__dict__")) (vs (s "__dict__") 617) (r 333),de (kh P (s "__weakref__")) (vs (s "__weakref__") 619) (r 334),de (kh P (s "__doc__")) (vs (s "__doc__") 620) vn] 4) #[]) ::
(nat_lit 332,ob (vt "type") none (Data.cls (ClassData.mk (s "String") [vt "object"] [r 332,vt "object"] 331 (s "String") true [] [] false none false)) #[none,none,some (vs (s "String") 592),some (vs (s "String") 600),some (Value.builtin "object.__new__"),some (vb true)]) ::
(nat_lit 333,ob (vt "getset_descriptor") none (df #[vs (s "__dict__") 616,r 332,Value.builtin "function.__dict__",Value.builtin "function.__dict__#set"]) #[]) ::
(nat_lit 334,ob (vt "getset_descriptor") none (df #[vs (s "__weakref__") 618,r 332,Value.builtin "ExceptionGroup.__weakref__",vn]) #[]) ::
(nat_lit 344,ob (vt "tuple") none (ds #[] 0) #[]) ::
(nat_lit 346,ob (vt "tuple") none (ds #[vs (s "self") 638,vs (s "head") 639,vs (s "octets") 640] 0) #[]) ::
(nat_lit 347,ob (vt "tuple") none (ds #[] 0) #[]) ::
(nat_lit 349,ob (vt "code") none (df #[vs (s "__init__") 635,vs (s "Stream.__init__") 636,vs (s "/claim/cut.py") 637,vi 160 0,vi 3 0,vi 0 0,vi 0 0,vi 3 0,r 344,vb true,vi 181 0,r 345,vn,r 346,r 347,r 348,vi 641 0,vi 160 0,vs (s "/claim/cut.py") 642]) #[]) ::
(nat_lit 350,ob (vt "function") none (du (fd (s "__init__") (s "Stream.__init__") x420 (fb x421) x425 3 [] vn vn vn (vs (s "paperhold.objects") 559) none (r 349) vn 0)) #[]) ::
(nat_lit 351,ob (vt "tuple") none (ds #[vs (s "head") 644,vs (s "octets") 645] 0) #[]) ::
(nat_lit 352,ob (vt "dict") none (Data.dict #[de (kh P (s "__module__")) (vs (s "__module__") 630) (vs (s "paperhold.objects") 559),de (kh P (s "__firstlineno__")) (vs (s "__firstlineno__") 634) (vi 158 633),de (kh P (s "__init__")) (vs (s "__init__") 643) (r 350),de (kh P (s "__static_attributes__")) (vs (s "__static_attributes__") 646) (r 351),de (kh P (s "__dict__")) (vs (s "__dict__") 648) (r 354),de (kh P (s "__weakref__")) (vs (s "__weakref__") 650) (r 355),de (kh P (s "__doc__")) (vs (s "__doc__") 651) vn] 4) #[]) ::
(nat_lit 353,ob (vt "type") none (Data.cls (ClassData.mk (s "Stream") [vt "object"] [r 353,vt "object"] 352 (s "Stream") true [] [] false none false)) #[none,none,some (vs (s "Stream") 623),some (vs (s "Stream") 631),some (Value.builtin "object.__new__"),some (vb true)]) ::
(nat_lit 354,ob (vt "getset_descriptor") none (df #[vs (s "__dict__") 647,r 353,Value.builtin "function.__dict__",Value.builtin "function.__dict__#set"]) #[]) ::
(nat_lit 355,ob (vt "getset_descriptor") none (df #[vs (s "__weakref__") 649,r 353,Value.builtin "ExceptionGroup.__weakref__",vn]) #[]) ::
(nat_lit 365,ob (vt "tuple") none (ds #[] 0) #[]) ::
(nat_lit 367,ob (vt "tuple") none (ds #[vs (s "self") 669,vs (s "number") 670,vs (s "generation") 671] 0) #[]) ::
(nat_lit 368,ob (vt "tuple") none (ds #[] 0) #[]) ::
(nat_lit 370,ob (vt "code") none (df #[vs (s "__init__") 666,vs (s "Reference.__init__") 667,vs (s "/claim/cut.py") 668,vi 165 0,vi 3 0,vi 0 0,vi 0 0,vi 3 0,r 365,vb true,vi 181 0,r 366,vn,r 367,r 368,r 369,vi 672 0,vi 165 0,vs (s "/claim/cut.py") 673]) #[]) ::
(nat_lit 371,ob (vt "function") none (du (fd (s "__init__") (s "Reference.__init__") x440 (fb x441) x445 3 [] vn vn vn (vs (s "paperhold.objects") 559) none (r 370) vn 0)) #[]) ::
(nat_lit 372,ob (vt "tuple") none (ds #[] 0) #[]) ::
(nat_lit 374,ob (vt "tuple") none (ds #[vs (s "self") 678] 0) #[]) ::
(nat_lit 375,ob (vt "tuple") none (ds #[] 0) #[]) ::
(nat_lit 377,ob (vt "code") none (df #[vs (s "pair") 675,vs (s "Reference.pair") 676,vs (s "/claim/cut.py") 677,vi 169 0,vi 1 0,vi 0 0,vi 0 0,vi 3 0,r 372,vb true,vi 181 0,r 373,vn,r 374,r 375,r 376,vi 679 0,vi 169 0,vs (s "/claim/cut.py") 680]) #[]) ::
(nat_lit 378,ob (vt "function") none (du (fd (s "pair") (s "Reference.pair") x450 (fb x451) x102 3 [] vn vn vn (vs (s "paperhold.objects") 559) none (r 377) vn 0)) #[]) ::
(nat_lit 379,ob (vt "tuple") none (ds #[vs (s "generation") 682,vs (s "number") 683] 0) #[]) ::
(nat_lit 380,ob (vt "dict") none (Data.dict #[de (kh P (s "__module__")) (vs (s "__module__") 661) (vs (s "paperhold.objects") 559),de (kh P (s "__firstlineno__")) (vs (s "__firstlineno__") 665) (vi 163 664),de (kh P (s "__init__")) (vs (s "__init__") 674) (r 371),de (kh P (s "pair")) (vs (s "pair") 681) (r 378),de (kh P (s "__static_attributes__")) (vs (s "__static_attributes__") 684) (r 379),de (kh P (s "__dict__")) (vs (s "__dict__") 686) (r 382),de (kh P (s "__weakref__")) (vs (s "__weakref__") 688) (r 383),de (kh P (s "__doc__")) (vs (s "__doc__") 689) vn] 4) #[]) ::
(nat_lit 381,ob (vt "type") none (Data.cls (ClassData.mk (s "Reference") [vt "object"] [r 381,vt "object"] 380 (s "Reference") true [] [] false none false)) #[none,none,some (vs (s "Reference") 654),some (vs (s "Reference") 662),some (Value.builtin "object.__new__"),some (vb true)]) ::
(nat_lit 382,ob (vt "getset_descriptor") none (df #[vs (s "__dict__") 685,r 381,Value.builtin "function.__dict__",Value.builtin "function.__dict__#set"]) #[]) ::
(nat_lit 383,ob (vt "getset_descriptor") none (df #[vs (s "__weakref__") 687,r 381,Value.builtin "ExceptionGroup.__weakref__",vn]) #[]) ::
(nat_lit 386,ob (vt "tuple") none (ds #[] 0) #[]) ::
(nat_lit 388,ob (vt "tuple") none (ds #[vs (s "value") 695] 0) #[]) ::
(nat_lit 389,ob (vt "tuple") none (ds #[] 0) #[]) ::
(nat_lit 391,ob (vt "code") none (df #[vs (s "kind_of") 692,vs (s "kind_of") 693,vs (s "/claim/cut.py") 694,vi 171 0,vi 1 0,vi 0 0,vi 0 0,vi 3 0,r 386,vb true,vi 181 0,r 387,vn,r 388,r 389,r 390,vi 696 0,vi 171 0,vs (s "/claim/cut.py") 697]) #[]) ::
(nat_lit 392,ob (vt "function") none (du (fd (s "kind_of") (s "kind_of") x467 (fb x468) x472 3 [] vn vn vn (vs (s "paperhold.objects") 559) none (r 391) vn 0)) #[]) ::
(nat_lit 393,ob (vt "tuple") none (ds #[] 0) #[]) ::
(nat_lit 395,ob (vt "tuple") none (ds #[vs (s "value") 702] 0) #[]) ::
(nat_lit 396,ob (vt "tuple") none (ds #[] 0) #[]) ::
(nat_lit 398,ob (vt "code") none (df #[vs (s "is_number") 699,vs (s "is_number") 700,vs (s "/claim/cut.py") 701,vi 193 0,vi 1 0,vi 0 0,vi 0 0,vi 3 0,r 393,vb true,vi 181 0,r 394,vn,r 395,r 396,r 397,vi 703 0,vi 193 0,vs (s "/claim/cut.py") 704]) #[]) ::
(nat_lit 399,ob (vt "function") none (du (fd (s "is_number") (s "is_number") x477 (fb x478) x482 3 [] vn vn vn (vs (s "paperhold.objects") 559) none (r 398) vn 0)) #[]) ::
(nat_lit 400,ob (vt "tuple") none (ds #[] 0) #[]) ::
(nat_lit 402,ob (vt "tuple") none (ds #[vs (s "kind") 709,vs (s "value") 710] 0) #[]) ::
(nat_lit 403,ob (vt "tuple") none (ds #[] 0) #[]) ::
(nat_lit 405,ob (vt "code") none (df #[vs (s "told_plain") 706,vs (s "told_plain") 707,vs (s "/claim/cut.py") 708,vi 195 0,vi 2 0,vi 0 0,vi 0 0,vi 3 0,r 400,vb true,vi 181 0,r 401,vn,r 402,r 403,r 404,vi 711 0,vi 195 0,vs (s "/claim/cut.py") 712]) #[]) ::
(nat_lit 406,ob (vt "function") none (du (fd (s "told_plain") (s "told_plain") x487 (fb x488) x492 3 [] vn vn vn (vs (s "paperhold.objects") 559) none (r 405) vn 0)) #[]) ::
(nat_lit 407,ob (vt "tuple") none (ds #[] 0) #[]) ::
(nat_lit 410,ob (vt "code") none (df #[vs (s "told") 714,vs (s "told") 715,vs (s "/claim/cut.py") 716,vi 209 0,vi 1 0,vi 0 0,vi 0 0,vi 3 0,r 407,vb true,vi 181 0,r 408,vn,vn,vn,r 409,vi 717 0,vi 209 0,vs (s "/claim/cut.py") 718]) #[]) ::
(nat_lit 411,ob (vt "function") none (du (fd (s "told") (s "told") x497 (fb x498) x502 3 [] vn vn vn (vs (s "paperhold.objects") 559) none (r 410) vn 0)) #[]) ::
(nat_lit 419,ob (vt "tuple") none (ds #[vn,vn] 0) #[]) ::
(nat_lit 420,ob (vt "tuple") none (ds #[] 0) #[]) ::
(nat_lit 422,ob (vt "tuple") none (ds #[vs (s "self") 735,vs (s "table") 736,vs (s "trailer") 737] 0) #[]) ::
(nat_lit 423,ob (vt "tuple") none (ds #[] 0) #[]) ::
(nat_lit 425,ob (vt "code") none (df #[vs (s "__init__") 732,vs (s "Lookup.__init__") 733,vs (s "/claim/cut.py") 734,vi 220 0,vi 3 0,vi 0 0,vi 0 0,vi 3 0,r 420,vb true,vi 181 0,r 421,vn,r 422,r 423,r 424,vi 738 0,vi 220 0,vs (s "/claim/cut.py") 739]) #[]) ::
(nat_lit 426,ob (vt "function") none (du (fd (s "__init__") (s "Lookup.__init__") x510 (fb x511) x515 3 [] (r 419) vn vn (vs (s "paperhold.objects") 559) none (r 425) vn 0)) #[]) ::
(nat_lit 427,ob (vt "tuple") none (ds #[] 0) #[]) ::
(nat_lit 429,ob (vt "tuple") none (ds #[vs (s "self") 744,vs (s "value") 745,vs (s "here") 746,vs (s "hop") 747,vs (s "generation") 748,vs (s "found") 749] 0) #[]) ::
(nat_lit 430,ob (vt "tuple") none (ds #[] 0) #[]) ::
(nat_lit 432,ob (vt "code") none (df #[vs (s "fetch") 741,vs (s "Lookup.fetch") 742,vs (s "/claim/cut.py") 743,vi 224 0,vi 2 0,vi 0 0,vi 0 0,vi 3 0,r 427,vb true,vi 181 0,r 428,vn,r 429,r 430,r 431,vi 750 0,vi 224 0,vs (s "/claim/cut.py") 751]) #[]) ::
(nat_lit 433,ob (vt "function") none (du (fd (s "fetch") (s "Lookup.fetch") x520 (fb x521) x525 3 [] vn vn vn (vs (s "paperhold.objects") 559) none (r 432) vn 0)) #[]) ::
(nat_lit 434,ob (vt "tuple") none (ds #[] 0) #[]) ::
(nat_lit 436,ob (vt "tuple") none (ds #[vs (s "self") 756,vs (s "head") 757,vs (s "key") 758] 0) #[]) ::
(nat_lit 437,ob (vt "tuple") none (ds #[] 0) #[]) ::
(nat_lit 439,ob (vt "code") none (df #[vs (s "get") 753,vs (s "Lookup.get") 754,vs (s "/claim/cut.py") 755,vi 235 0,vi 3 0,vi 0 0,vi 0 0,vi 3 0,r 434,vb true,vi 181 0,r 435,vn,r 436,r 437,r 438,vi 759 0,vi 235 0,vs (s "/claim/cut.py") 760]) #[]) ::
(nat_lit 440,ob (vt "function") none (du (fd (s "get") (s "Lookup.get") x530 (fb x531) x535 3 [] vn vn vn (vs (s "paperhold.objects") 559) none (r 439) vn 0)) #[]) ::
(nat_lit 441,ob (vt "tuple") none (ds #[vs (s "table") 762,vs (s "trailer") 763] 0) #[]) ::
(nat_lit 442,ob (vt "dict") none (Data.dict #[de (kh P (s "__module__")) (vs (s "__module__") 727) (vs (s "paperhold.objects") 559),de (kh P (s "__firstlineno__")) (vs (s "__firstlineno__") 731) (vi 218 730),de (kh P (s "__init__")) (vs (s "__init__") 740) (r 426),de (kh P (s "fetch")) (vs (s "fetch") 752) (r 433),de (kh P (s "get")) (vs (s "get") 761) (r 440),de (kh P (s "__static_attributes__")) (vs (s "__static_attributes__") 764) (r 441),de (kh P (s "__dict__")) (vs (s "__dict__") 766) (r 444),de (kh P (s "__weakref__")) (vs (s "__weakref__") 768) (r 445),de (kh P (s "__doc__")) (vs (s "__doc__") 769) vn] 4) #[]) ::
(nat_lit 443,ob (vt "type") none (Data.cls (ClassData.mk (s "Lookup") [vt "object"] [r 443,vt "object"] 442 (s "Lookup") true [] [] false none false)) #[none,none,some (vs (s "Lookup") 720),some (vs (s "Lookup") 728),some (Value.builtin "object.__new__"),some (vb true)]) ::
(nat_lit 444,ob (vt "getset_descriptor") none (df #[vs (s "__dict__") 765,r 443,Value.builtin "function.__dict__",Value.builtin "function.__dict__#set"]) #[]) ::
(nat_lit 445,ob (vt "getset_descriptor") none (df #[vs (s "__weakref__") 767,r 443,Value.builtin "ExceptionGroup.__weakref__",vn]) #[]) ::
(nat_lit 448,ob (vt "tuple") none (ds #[] 0) #[]) ::
(nat_lit 450,ob (vt "tuple") none (ds #[vs (s "head") 777,vs (s "changes") 778,vs (s "found") 779,vs (s "key") 780] 0) #[]) ::
(nat_lit 451,ob (vt "tuple") none (ds #[] 0) #[]) ::
(nat_lit 453,ob (vt "code") none (df #[vs (s "turned") 774,vs (s "turned") 775,vs (s "/claim/cut.py") 776,vi 238 0,vi 2 0,vi 0 0,vi 0 0,vi 3 0,r 448,vb true,vi 181 0,r 449,vn,r 450,r 451,r 452,vi 781 0,vi 238 0,vs (s "/claim/cut.py") 782]) #[]) ::
(nat_lit 454,ob (vt "function") none (du (fd (s "turned") (s "turned") x548 (fb x549) x553 3 [] vn vn vn (vs (s "paperhold.pagetree") 772) none (r 453) vn 0)) #[]) ::
(nat_lit 455,ob (vt "tuple") none (ds #[] 0) #[]) ::
(nat_lit 458,ob (vt "code") none (df #[vs (s "four_numbers") 784,vs (s "four_numbers") 785,vs (s "/claim/cut.py") 786,vi 246 0,vi 2 0,vi 0 0,vi 0 0,vi 3 0,r 455,vb true,vi 181 0,r 456,vn,vn,vn,r 457,vi 787 0,vi 246 0,vs (s "/claim/cut.py") 788]) #[]) ::
(nat_lit 459,ob (vt "function") none (du (fd (s "four_numbers") (s "four_numbers") x558 (fb x559) x563 3 [] vn vn vn (vs (s "paperhold.pagetree") 772) none (r 458) vn 0)) #[]) ::
(nat_lit 460,ob (vt "tuple") none (ds #[] 0) #[]) ::
(nat_lit 462,ob (vt "tuple") none (ds #[vs (s "shelf") 795,vs (s "head") 796] 0) #[]) ::
(nat_lit 463,ob (vt "tuple") none (ds #[] 0) #[]) ::
(nat_lit 465,ob (vt "code") none (df #[vs (s "rect") 792,vs (s "rect") 793,vs (s "/claim/cut.py") 794,vi 257 0,vi 2 0,vi 0 0,vi 0 0,vi 3 0,r 460,vb true,vi 181 0,r 461,vn,r 462,r 463,r 464,vi 797 0,vi 257 0,vs (s "/claim/cut.py") 798]) #[]) ::
(nat_lit 466,ob (vt "function") none (du (fd (s "rect") (s "rect") x569 (fb x570) x574 3 [] vn vn vn (vs (s "paperhold.annots") 790) none (r 465) vn 0)) #[]) ::
(nat_lit 467,ob (vt "tuple") none (ds #[] 0) #[]) ::
(nat_lit 470,ob (vt "code") none (df #[vs (s "quads") 800,vs (s "quads") 801,vs (s "/claim/cut.py") 802,vi 259 0,vi 2 0,vi 0 0,vi 0 0,vi 3 0,r 467,vb true,vi 181 0,r 468,vn,vn,vn,r 469,vi 803 0,vi 259 0,vs (s "/claim/cut.py") 804]) #[]) ::
(nat_lit 471,ob (vt "function") none (du (fd (s "quads") (s "quads") x579 (fb x580) x584 3 [] vn vn vn (vs (s "paperhold.annots") 790) none (r 470) vn 0)) #[]) ::
(nat_lit 472,ob (vt "tuple") none (ds #[] 0) #[]) ::
(nat_lit 474,ob (vt "tuple") none (ds #[vs (s "shelf") 809,vs (s "head") 810,vs (s "m") 811,vs (s "changes") 812,vs (s "numbers") 813,vs (s "quad") 814,vs (s "x") 815,vs (s "y") 816] 0) #[]) ::
(nat_lit 475,ob (vt "tuple") none (ds #[] 0) #[]) ::
(nat_lit 477,ob (vt "code") none (df #[vs (s "moved_annotation") 806,vs (s "moved_annotation") 807,vs (s "/claim/cut.py") 808,vi 270 0,vi 3 0,vi 0 0,vi 0 0,vi 3 0,r 472,vb true,vi 181 0,r 473,vn,r 474,r 475,r 476,vi 817 0,vi 270 0,vs (s "/claim/cut.py") 818]) #[]) ::
(nat_lit 478,ob (vt "function") none (du (fd (s "moved_annotation") (s "moved_annotation") x589 (fb x590) x594 3 [] vn vn vn (vs (s "paperhold.annots") 790) none (r 477) vn 0)) #[]) ::
(nat_lit 479,ob (vt "tuple") none (ds #[] 0) #[]) ::
(nat_lit 482,ob (vt "code") none (df #[vs (s "_law_pen") 822,vs (s "_law_pen") 823,vs (s "/claim/cut.py") 824,vi 280 0,vi 1 0,vi 0 0,vi 0 0,vi 3 0,r 479,vb true,vi 181 0,r 480,vn,vn,vn,r 481,vi 825 0,vi 280 0,vs (s "/claim/cut.py") 826]) #[]) ::
(nat_lit 483,ob (vt "function") none (du (fd (s "_law_pen") (s "_law_pen") x600 (fb x601) x605 3 [] vn vn vn (vs (s "law_qz0078_01") 820) none (r 482) vn 0)) #[]) ::
(nat_lit 484,ob (vt "tuple") none (ds #[] 0) #[]) ::
(nat_lit 486,ob (vt "tuple") none (ds #[vs (s "pen") 831,vs (s "many") 832,vs (s "digit") 833,vs (s "spot") 834,vs (s "cell") 835,vs (s "great") 836,vs (s "stirred") 837] 0) #[]) ::
(nat_lit 487,ob (vt "tuple") none (ds #[] 0) #[]) ::
(nat_lit 489,ob (vt "code") none (df #[vs (s "_law_draw") 828,vs (s "_law_draw") 829,vs (s "/claim/cut.py") 830,vi 282 0,vi 2 0,vi 0 0,vi 0 0,vi 3 0,r 484,vb true,vi 181 0,r 485,vn,r 486,r 487,r 488,vi 838 0,vi 282 0,vs (s "/claim/cut.py") 839]) #[]) ::
(nat_lit 490,ob (vt "function") none (du (fd (s "_law_draw") (s "_law_draw") x610 (fb x611) x615 3 [] vn vn vn (vs (s "law_qz0078_01") 820) none (r 489) vn 0)) #[]) ::
(nat_lit 491,ob (vt "tuple") none (ds #[] 0) #[]) ::
(nat_lit 493,ob (vt "tuple") none (ds #[vs (s "pen") 844,vs (s "some") 845] 0) #[]) ::
(nat_lit 494,ob (vt "tuple") none (ds #[] 0) #[]) ::
(nat_lit 496,ob (vt "code") none (df #[vs (s "_law_pick") 841,vs (s "_law_pick") 842,vs (s "/claim/cut.py") 843,vi 299 0,vi 2 0,vi 0 0,vi 0 0,vi 3 0,r 491,vb true,vi 181 0,r 492,vn,r 493,r 494,r 495,vi 846 0,vi 299 0,vs (s "/claim/cut.py") 847]) #[]) ::
(nat_lit 497,ob (vt "function") none (du (fd (s "_law_pick") (s "_law_pick") x620 (fb x621) x625 3 [] vn vn vn (vs (s "law_qz0078_01") 820) none (r 496) vn 0)) #[]) ::
(nat_lit 498,ob (vt "tuple") none (ds #[] 0) #[]) ::
(nat_lit 500,ob (vt "tuple") none (ds #[vs (s "pen") 852,vs (s "a") 853,vs (s "d") 854,vs (s "e") 855,vs (s "f") 856] 0) #[]) ::
(nat_lit 501,ob (vt "tuple") none (ds #[] 0) #[]) ::
(nat_lit 503,ob (vt "code") none (df #[vs (s "_law_straight") 849,vs (s "_law_straight") 850,vs (s "/claim/cut.py") 851,vi 301 0,vi 1 0,vi 0 0,vi 0 0,vi 3 0,r 498,vb true,vi 181 0,r 499,vn,r 500,r 501,r 502,vi 857 0,vi 301 0,vs (s "/claim/cut.py") 858]) #[]) ::
(nat_lit 504,ob (vt "function") none (du (fd (s "_law_straight") (s "_law_straight") x630 (fb x631) x635 3 [] vn vn vn (vs (s "law_qz0078_01") 820) none (r 503) vn 0)) #[]) ::
(nat_lit 505,ob (vt "tuple") none (ds #[] 0) #[]) ::
(nat_lit 508,ob (vt "code") none (df #[vs (s "_law_any") 860,vs (s "_law_any") 861,vs (s "/claim/cut.py") 862,vi 305 0,vi 1 0,vi 0 0,vi 0 0,vi 3 0,r 505,vb true,vi 181 0,r 506,vn,vn,vn,r 507,vi 863 0,vi 305 0,vs (s "/claim/cut.py") 864]) #[]) ::
(nat_lit 509,ob (vt "function") none (du (fd (s "_law_any") (s "_law_any") x640 (fb x641) x645 3 [] vn vn vn (vs (s "law_qz0078_01") 820) none (r 508) vn 0)) #[]) ::
(nat_lit 510,ob (vt "tuple") none (ds #[] 0) #[]) ::
(nat_lit 513,ob (vt "code") none (df #[vs (s "_law_numbers") 866,vs (s "_law_numbers") 867,vs (s "/claim/cut.py") 868,vi 308 0,vi 2 0,vi 0 0,vi 0 0,vi 3 0,r 510,vb true,vi 181 0,r 511,vn,vn,vn,r 512,vi 869 0,vi 308 0,vs (s "/claim/cut.py") 870]) #[]) ::
(nat_lit 514,ob (vt "function") none (du (fd (s "_law_numbers") (s "_law_numbers") x650 (fb x651) x655 3 [] vn vn vn (vs (s "law_qz0078_01") 820) none (r 513) vn 0)) #[]) ::
(nat_lit 515,ob (vt "tuple") none (ds #[] 0) #[]) ::
(nat_lit 517,ob (vt "tuple") none (ds #[vs (s "inner") 875,vs (s "outer") 876] 0) #[]) ::
(nat_lit 518,ob (vt "tuple") none (ds #[] 0) #[]) ::
(nat_lit 520,ob (vt "code") none (df #[vs (s "_law_is_within") 872,vs (s "_law_is_within") 873,vs (s "/claim/cut.py") 874,vi 311 0,vi 2 0,vi 0 0,vi 0 0,vi 3 0,r 515,vb true,vi 181 0,r 516,vn,r 517,r 518,r 519,vi 877 0,vi 311 0,vs (s "/claim/cut.py") 878]) #[]) ::
(nat_lit 521,ob (vt "function") none (du (fd (s "_law_is_within") (s "_law_is_within") x660 (fb x661) x665 3 [] vn vn vn (vs (s "law_qz0078_01") 820) none (r 520) vn 0)) #[]) ::
(nat_lit 522,ob (vt "tuple") none (ds #[] 0) #[]) ::
(nat_lit 525,ob (vt "code") none (df #[vs (s "law") 880,vs (s "law") 881,vs (s "/claim/cut.py") 882,vi 315 0,vi 1 0,vi 0 0,vi 0 0,vi 3 0,r 522,vb true,vi 181 0,r 523,vn,vn,vn,r 524,vi 883 0,vi 315 0,vs (s "/claim/cut.py") 884]) #[]) ::
(nat_lit 526,ob (vt "function") none (du (fd (s "law") (s "law") x670 (fb x671) x675 3 [] vn vn vn (vs (s "law_qz0078_01") 820) none (r 525) vn 0)) #[]) :: []
end
end Qz
end

section
open PySem PySem.W PyProof.Rows PySem.Calls
namespace Qz


-- QzBase

section
def Ext (g h : Heap) : Prop := ∀ b o, g.get? b = some o → h.get? b = some o
theorem Ext.rfl' {g : Heap} : Ext g g := fun _ _ e => e
theorem Ext.trans {a b c : Heap} (x : Ext a b) (y : Ext b c) : Ext a c := fun p o e => y p o (x p o e)
theorem ext_fr {g h : Heap} {L : Addr} {m : Str → Option Value} (F : Fr g L h m) : Ext g h := F.keep
theorem fr_ext {h₀ g h : Heap} {L : Addr} {m : Str → Option Value} (F : Fr h₀ L g m) (k : Ext g h) : Fr h₀ L h m :=
  ⟨F.ns.keeps k, fun b o e => k b o (F.keep b o e), F.above⟩

section
variable {prog : Program} {w : World} {A A₀ : Around} {s : Shared} {K : Frag} {base h₀ : Heap} {L f : Addr} {m mg mb : Str → Option Value} {p : Program} {loose : List Str} {mean : ExcName → Option Value}
  {env : Env} {outer : List Env} {R : Result → Shared → Prop} {name qual : Str} {params : Arguments} {body : List Stmt} {scope : Scope} {dV kV doc pm cdv ct oc : Value} {an od : Option Addr} {osl : Array (Option Value)} {args : Args} {binds : List (Str × Value)}

theorem enterP (B : Below A₀ base outer h₀) (F : Fr h₀ L s.heap m) (X₀ : K.In h₀) (T : Top p loose mean mg mb h₀) (hA : A.frames = some (env :: outer)) (hf : env.frame = some L) (hke : env.scope.kind = .function)
    (ho : K.lookup f = some ⟨oc, od, .func (fnOf name qual params body scope dV kV doc pm an cdv ct), osl⟩) (hcd : codeIn K cdv qual = true) (hroom : A.depth < recursionLimit)
    (hbind : BindsTo s (fnOf name qual params body scope dV kV doc pm an cdv ct) args binds) (hloc : ∀ y ∈ binds, scope.names.lookup y.1 = some .local)
    (h : ∀ L' h₁, Fr s.heap L' h₁ (fun y => binds.reverse.lookup y) → Below A base (env :: outer) s.heap → K.In s.heap → Top p loose mean mg mb s.heap →
      wpAny (model prog w) (A.deeper (envOf qual scope L' f cdv)) (execs body (envOf qual scope L' f cdv))
        (fun fl s' => R (.ok (.ret (match fl with | .ret v => v | _ => .none))) s')
        (fun e s' => wpAny (model prog w) (A.deeper (envOf qual scope L' f cdv)) (leaving (envOf qual scope L' f cdv) e) (fun _ s'' => R (.error e) s'') (fun e' s'' => R (.error e') s'') s')
        { s with heap := h₁, toks := s.toks + binds.length })
    (hco : scope.isCoroutine = false) (hgen : scope.isGenerator = false) (hk : scope.kind = .function)
    (hcell : ∀ x ∈ scope.names, x.2 ≠ .cell) : codeAny (model prog w) A (.call (.ref f) args) R s := by
  have B₁ := pushX B F hf hke
  refine codeAny_call_def (fd := fnOf name qual params body scope dV kV doc pm an cdv ct) (body := body) (binds := binds) hroom ((X₀.keeps F.keep) _ _ ho) rfl (T.nolimit.keeps F.keep) (codeRec_of (X₀.keeps F.keep) hcd) rfl hbind hcell hloc (fun h₁ hns hk₁ => ?_) hco hgen hk
  exact h _ h₁ ⟨hns, hk₁, Nat.le_refl _⟩ ⟨hA, B₁.stays, B₁.frames⟩ (X₀.keeps F.keep) (T.keeps F.keep)

theorem enterC (B : Below A₀ base outer h₀) (F : Fr h₀ L s.heap m) (X₀ : K.In h₀) (T : Top p loose mean mg mb h₀) (hA : A.frames = some (env :: outer)) (hf : env.frame = some L) (hke : env.scope.kind = .function)
    (ho : K.lookup f = some ⟨oc, od, .func (fnOf name qual params body scope dV kV doc pm an cdv ct), osl⟩) (hcd : codeIn K cdv qual = true) (hroom : A.depth < recursionLimit)
    (hbind : BindsTo s (fnOf name qual params body scope dV kV doc pm an cdv ct) args binds) (hkind : (binds.all fun y => scope.names.lookup y.1 == some .local || scope.names.lookup y.1 == some .cell) = true)
    (hnd : ((cellsFrom 0 scope.names []).map (·.1)).Nodup)
    (h : ∀ L' h₁ tk cells, Fr s.heap L' h₁ (bindL (envOfC qual scope L' f cdv).kindOf binds fun _ => none) → News s.heap L' h₁ cells →
      CellsAre (bindC (envOfC qual scope L' f cdv).kindOf binds fun _ => none) (cellsFrom (L' + 1) scope.names []) cells → Below A base (env :: outer) s.heap → K.In s.heap → Top p loose mean mg mb s.heap →
      wpAny (model prog w) (A.deeper (envOfC qual scope L' f cdv)) (execs body (envOfC qual scope L' f cdv))
        (fun fl s' => R (.ok (.ret (match fl with | .ret v => v | _ => .none))) s')
        (fun e s' => wpAny (model prog w) (A.deeper (envOfC qual scope L' f cdv)) (leaving (envOfC qual scope L' f cdv) e) (fun _ s'' => R (.error e) s'') (fun e' s'' => R (.error e') s'') s')
        { s with heap := h₁, toks := tk })
    (hco : scope.isCoroutine = false) (hgen : scope.isGenerator = false) (hk : scope.kind = .function) : codeAny (model prog w) A (.call (.ref f) args) R s := by
  have B₁ := pushX B F hf hke
  refine codeAny_call_function hroom ((X₀.keeps F.keep) _ _ ho) rfl hco hgen rfl (codeRec_of (X₀.keeps F.keep) hcd) (hbind _ _ _ _ ?_)
  refine wpAny_newFunctionEnv_cells hk (kindsX hkind _) fun env' he s' x => ?_
  subst he
  refine ⟨(T.nolimit.keeps F.keep).keeps x.toInCall.keep, codeAny_func ?_⟩
  refine ex2 (x.done) ?_
  intro h₁ tk zz9
  refine and2 zz9 ?_
  try clear zz9
  intro e9r1 _
  subst e9r1
  refine ex1 (Cl.news (h₀ := s.heap) (Nat.le_refl _) fun n c hm => ⟨x.cell n c (lookup_of_mem_nodup (cellsFrom_names scope.names 0 (s.heap.objs.size + 1) [] [] rfl ▸ hnd) hm), x.above n c hm⟩) ?_
  intro cells zz9
  refine and2 zz9 ?_
  try clear zz9
  intro NC Y
  exact h _ h₁ tk cells ⟨x.toInCall.ns, x.toInCall.keep, Nat.le_refl _⟩ NC Y ⟨hA, B₁.stays, B₁.frames⟩ (X₀.keeps F.keep) (T.keeps F.keep)

/-- a call whose ledger is hidden from what the callee must keep -/
theorem enterH {news : List (Addr × Obj)} (B : Below A₀ base outer h₀) (F : Fr h₀ L s.heap m) (X₀ : K.In h₀) (N : News h₀ L s.heap news) (T : Top p loose mean mg mb h₀) (hA : A.frames = some (env :: outer)) (hf : env.frame = some L) (hke : env.scope.kind = .function)
    (ho : K.lookup f = some ⟨oc, od, .func (fnOf name qual params body scope dV kV doc pm an cdv ct), osl⟩) (hcd : codeIn K cdv qual = true) (hroom : A.depth < recursionLimit)
    (hbind : BindsTo s (fnOf name qual params body scope dV kV doc pm an cdv ct) args binds) (hloc : ∀ y ∈ binds, scope.names.lookup y.1 = some .local)
    (h : ∀ g L' h₁, (∀ b o, b ∉ news.map (·.1) → s.heap.get? b = some o → g.get? b = some o) → Fr g L' h₁ (fun y => binds.reverse.lookup y) → News g L' h₁ news → Below A base (env :: outer) g → K.In g → Top p loose mean mg mb g → (∀ p ∈ news, p.1 < L') →
      wpAny (model prog w) (A.deeper (envOf qual scope L' f cdv)) (execs body (envOf qual scope L' f cdv))
        (fun fl s' => R (.ok (.ret (match fl with | .ret v => v | _ => .none))) s')
        (fun e s' => wpAny (model prog w) (A.deeper (envOf qual scope L' f cdv)) (leaving (envOf qual scope L' f cdv) e) (fun _ s'' => R (.error e) s'') (fun e' s'' => R (.error e') s'') s')
        { s with heap := h₁, toks := s.toks + binds.length })
    (hco : scope.isCoroutine = false) (hgen : scope.isGenerator = false) (hk : scope.kind = .function)
    (hcell : ∀ x ∈ scope.names, x.2 ≠ .cell) : codeAny (model prog w) A (.call (.ref f) args) R s := by
  refine and4 (groundX (R := R) B F N hA hf hke) ?_
  intro FG BG st _
  refine codeAny_call_def (fd := fnOf name qual params body scope dV kV doc pm an cdv ct) (body := body) (binds := binds) hroom ((X₀.keeps F.keep) _ _ ho) rfl (T.nolimit.keeps F.keep) (codeRec_of (X₀.keeps F.keep) hcd) rfl hbind hcell hloc (fun h₁ hns hk₁ => ?_) hco hgen hk
  exact h _ _ h₁ (fun b o hb e => hideAll_get _ e hb) ⟨hns, fun b o e => hk₁ b o (of_hideAll _ e), Nat.le_of_eq (hideAll_size _ _)⟩
    (fun p hp => ⟨hk₁ _ _ (N p hp).1, Nat.ne_of_lt (Heap.lt_size (N p hp).1), hideAll_none _ (List.mem_map_of_mem hp)⟩) BG (X₀.keeps st) (T.keeps st) fun p hp => Heap.lt_size (N p hp).1
end

section
variable {prog : Program} {w : World} {A A₀ : Around} {K : Frag} {base h₀ g : Heap} {L f C : Addr} {m mg mb : Str → Option Value} {p : Program} {loose : List Str} {mean : ExcName → Option Value}
  {env : Env} {outer : List Env} {R : Result → Shared → Prop} {name qual : Str} {params : Arguments} {body : List Stmt} {scope : Scope} {dV kV doc pm cdv ct oc : Value} {an od : Option Addr} {osl : Array (Option Value)} {rest : List Value} {binds : List (Str × Value)}
  {gens : Array GenState} {drawn : Drawn} {toks : Nat} {os : OsState}

/-- a class is called: its object and dict are made, __init__ walks over a ground that keeps all of g -/
theorem mkP (B : Below A₀ base outer h₀) (F : Fr h₀ L g m) (X₀ : K.In h₀) (T : Top p loose mean mg mb h₀) (hA : A.frames = some (env :: outer)) (hf : env.frame = some L) (hke : env.scope.kind = .function)
    (hm : makesIn K C = true) (hi : findIn K (.ref C) "__init__" = some (some (.ref f))) (hfn : isFn K (.ref f) = true)
    (ho : K.lookup f = some ⟨oc, od, .func (fnOf name qual params body scope dV kV doc pm an cdv ct), osl⟩) (hcd : codeIn K cdv qual = true)
    (hroom : (A.under (.builtin "type.__call__" ⟨.ref C :: rest, []⟩)).depth < recursionLimit) (hA' : (A.under (.builtin "type.__call__" ⟨.ref C :: rest, []⟩)).frames = some (env :: outer))
    (hbind : ∀ x s, BindsTo s (fnOf name qual params body scope dV kV doc pm an cdv ct) ⟨.ref x :: rest, []⟩ ((Str.ofString "self", .ref x) :: binds)) (hloc : ∀ x, ∀ y ∈ (Str.ofString "self", Value.ref x) :: binds, scope.names.lookup y.1 = some .local)
    (h : ∀ x d g' L' h₁, Ext g g' → g.objs.size ≤ d → d < x → x < L' → Fr g' L' h₁ (fun y => ((Str.ofString "self", .ref x) :: binds).reverse.lookup y) → News g' L' h₁ [(x, instObj C d), (d, dictOf [] 0)] → Below (A.under (.builtin "type.__call__" ⟨.ref C :: rest, []⟩)) base (env :: outer) g' → K.In g' → Top p loose mean mg mb g' →
      wpAny (model prog w) ((A.under (.builtin "type.__call__" ⟨.ref C :: rest, []⟩)).deeper (envOf qual scope L' f cdv)) (execs body (envOf qual scope L' f cdv))
        (fun fl s' => InitBack x R (.ok (.ret (match fl with | .ret v => v | _ => .none))) s')
        (fun e s' => wpAny (model prog w) ((A.under (.builtin "type.__call__" ⟨.ref C :: rest, []⟩)).deeper (envOf qual scope L' f cdv)) (leaving (envOf qual scope L' f cdv) e) (fun _ s'' => InitBack x R (.error e) s'') (fun e' s'' => InitBack x R (.error e') s'') s')
        { heap := h₁, gens := gens, drawn := drawn, toks := toks + (binds.length + 1), os := os })
    (hco : scope.isCoroutine = false) (hgen : scope.isGenerator = false) (hk : scope.kind = .function)
    (hcell : ∀ x ∈ scope.names, x.2 ≠ .cell) : codeAny (model prog w) A (.call (.ref C) ⟨rest, []⟩) R ⟨g, gens, drawn, toks, os⟩ := by
  have X := X₀.keeps F.keep
  refine make_core (makes_of X hm) (looks_findIn X hi) (fun self => bind_fn X self (beq_iff_eq.mp hfn)) (.inl rfl) ?_
  have F2 : Fr h₀ L ((g.push emptyDict).push (instObj C g.objs.size)) m := (F.push _).push _
  have N2 : News h₀ L ((g.push emptyDict).push (instObj C g.objs.size)) [(g.objs.size + 1, instObj C g.objs.size), (g.objs.size, dictOf [] 0)] := by
    have := ((News.nil (h₀ := h₀) (L := L) (h := g)).push F emptyDict).push (F.push _) (instObj C g.objs.size)
    rwa [Heap.size_push] at this
  refine enterH (s := ⟨(g.push emptyDict).push (instObj C g.objs.size), gens, drawn, toks, os⟩) (binds := (Str.ofString "self", .ref (g.objs.size + 1)) :: binds) B F2 X₀ N2 T hA' hf hke ho hcd hroom (hbind _ _) (hloc _) ?_ hco hgen hk hcell
  intro g' L' h₁ e FF NN BB XX TT ll
  refine h _ _ g' L' h₁ (fun b o hb => e b o ?_ (Heap.get?_push_of_some _ (Heap.get?_push_of_some _ hb))) (Nat.le_refl _) (Nat.lt_succ_self _) (ll (_, _) (.head _)) FF NN BB XX TT
  have := Heap.lt_size hb
  simp only [List.map_cons, List.map_nil, List.mem_cons, List.not_mem_nil, or_false]
  intro q
  rcases q with rfl | rfl
  · exact absurd this (Nat.not_lt.mpr (Nat.le_succ _))
  · exact absurd this (Nat.lt_irrefl _)
end

/-- what lies new in h above g -/
def NewIn (g h : Heap) (tl : List (Addr × Obj)) : Prop := ∀ q ∈ tl, g.get? q.1 = none ∧ h.get? q.1 = some q.2

/-- a pure call: what stood stands, what is made is told by Out -/
def Pu (prog : Program) (w : World) (p : Program) (loose : List Str) (mean : ExcName → Option Value) (mg mb : Str → Option Value) (dep : Nat) (f : Value) (vs : List Value) (g : Heap)
    (Out : List (Addr × Obj) → Value → Prop) : Prop :=
  ∀ (dp un : Nat) (gd : Option (List Code)) (cn : Str) (cs : Scope) (a : Addr) (ccd : Value) (cl : List (Str × Addr)) (outer : List Env) (A₀ : Around) (base h₀ : Heap) (L : Addr) (m : Str → Option Value)
    (gens : Array GenState) (drawn : Drawn) (toks : Nat) (os : OsState) (Q E : Value → Shared → Prop),
    Below A₀ base outer h₀ → Fr h₀ L g m → (hd.heap_39 w.params).In h₀ → Top p loose mean mg mb h₀ → cs.kind = .function →
    dp + dep < recursionLimit → un + 8 * dep < cLine →
    (∀ v h' tk' tl, Ext g h' → NewIn g h' tl → Out tl v → Q v ⟨h', gens, drawn, tk', os⟩) →
    wpAny (model prog w) (ktrTop dp un gd cn cs L a ccd cl outer) (call f vs) Q E ⟨g, gens, drawn, toks, os⟩

theorem usePu {prog : Program} {w : World} {p : Program} {loose : List Str} {mean : ExcName → Option Value} {mg mb : Str → Option Value} {dep : Nat} {f : Value} {vs : List Value} {s : Shared}
    {Out : List (Addr × Obj) → Value → Prop}
    {dp un : Nat} {gd : Option (List Code)} {cn : Str} {cs : Scope} {a : Addr} {ccd : Value} {cl : List (Str × Addr)} {outer : List Env} {A₀ : Around} {base h₀ : Heap} {L : Addr} {m : Str → Option Value}
    {Q E : Value → Shared → Prop} {news : List (Addr × Obj)}
    (C : Pu prog w p loose mean mg mb dep f vs s.heap Out)
    (B : Below A₀ base outer h₀) (F : Fr h₀ L s.heap m) (X : (hd.heap_39 w.params).In h₀) (N : News h₀ L s.heap news) (T : Top p loose mean mg mb h₀) (hk : cs.kind = .function)
    (hd : dp + dep < recursionLimit) (hu : un + 8 * dep < cLine)
    (h : ∀ v h' tk' tl, Out tl v → Fr h₀ L h' m → News h₀ L h' (tl ++ news) → (∀ q ∈ tl, ∀ p ∈ news, p.1 ≠ q.1) → Q v { s with heap := h', toks := tk' }) :
    wpAny (model prog w) (ktrTop dp un gd cn cs L a ccd cl outer) (call f vs) Q E s := by
  obtain ⟨g, gens, drawn, toks, os⟩ := s
  refine C _ _ _ _ _ _ _ _ _ _ _ _ _ _ _ _ _ _ _ _ B F X T hk hd hu fun v h' tk' tl e ni o => ?_
  refine h v h' tk' tl o (fr_ext F e) (fun q hq => ?_) fun q hq p hp z => ?_
  · rcases List.mem_append.mp hq with hq | hq
    · refine and2 (ni q hq) ?_
      intro h1 h2
      refine ⟨h2, fun e' => ?_, ?_⟩
      · refine ex3 (F.ns) ?_
        intro oL _ _ zz9
        refine and2 zz9 ?_
        try clear zz9
        intro hL _
        rw [e', hL] at h1; cases h1
      · cases hg : h₀.get? q.1 with
        | none => rfl
        | some o => rw [F.keep _ _ hg] at h1; cases h1
    · exact ⟨e _ _ (N q hq).1, (N q hq).2⟩
  · have := (ni q hq).1
    rw [← z, (N p hp).1] at this; cases this

theorem newIn_of {g h : Heap} {L : Addr} {news tl : List (Addr × Obj)} (N : News g L h news) (hs : ∀ q ∈ tl, q ∈ news) : NewIn g h tl := fun q hq => ⟨(N q (hs q hq)).2.2, (N q (hs q hq)).1⟩
theorem newIn_of2 {g g' h : Heap} {L : Addr} {news tl : List (Addr × Obj)} (k : Ext g g') (N : News g' L h news) (hs : ∀ q ∈ tl, q ∈ news) : NewIn g h tl := fun q hq => by
  refine ⟨?_, (N q (hs q hq)).1⟩
  cases e : g.get? q.1 with
  | none => rfl
  | some o =>
    have := (N q (hs q hq)).2.2
    rw [k _ _ e] at this
    cases this
theorem newIn_nil {g h : Heap} : NewIn g h [] := fun _ hq => nomatch hq

abbrev tupO (vs : List Value) : Obj := { cls := .type "tuple", data := .seq vs.toArray }
abbrev decD (P : Params) (x : Int) (t1 t2 t3 t4 : Tok) : Obj := dictOf [⟨PyData.keyHash P (Str.ofString "top"), .str (Str.ofString "top") t1, .int x t2⟩, ⟨PyData.keyHash P (Str.ofString "places"), .str (Str.ofString "places") t3, .int 0 t4⟩] 2
/-- known objects -/
abbrev At (g : Heap) : Addr → Obj → Prop := fun a o => g.get? a = some o
abbrev Kn (g : Heap) (news : List (Addr × Obj)) : Addr → Obj → Prop := fun a o => g.get? a = some o ∨ (a, o) ∈ news
def DecG (P : Params) (G : Addr → Obj → Prop) (v : Value) (x : Int) : Prop := ∃ a d t1 t2 t3 t4, v = .ref a ∧ G a (instObj 155 d) ∧ G d (decD P x t1 t2 t3 t4)
abbrev DecAt (P : Params) (g : Heap) (v : Value) (x : Int) : Prop := DecG P (At g) v x
theorem At.raw {g : Heap} {a : Addr} {o : Obj} (h : At g a o) : g.get? a = some o := h
theorem DecG.el {P : Params} {G : Addr → Obj → Prop} {v : Value} {x : Int} {b : Prop} (D : DecG P G v x) (f : ∀ a d t1 t2 t3 t4, v = .ref a → G a (instObj 155 d) → G d (decD P x t1 t2 t3 t4) → b) : b :=
  ex6 D fun a d t1 t2 t3 t4 z => and3 z (f a d t1 t2 t3 t4)
theorem DecG.rawC {P : Params} {g : Heap} {v : Value} {x : Int} {b : Prop} (D : DecAt P g v x) (f : ∀ a d t1 t2 t3 t4, v = .ref a → g.get? a = some (instObj 155 d) → g.get? d = some (decD P x t1 t2 t3 t4) → b) : b := DecG.el D f
theorem DecG.mono {P : Params} {G H : Addr → Obj → Prop} {v : Value} {x : Int} (D : DecG P G v x) (e : ∀ a o, G a o → H a o) : DecG P H v x :=
  D.el fun a d t1 t2 t3 t4 q h1 h2 => ⟨a, d, t1, t2, t3, t4, q, e _ _ h1, e _ _ h2⟩
theorem DecG.raw {P : Params} {g : Heap} {v : Value} {x : Int} (D : DecAt P g v x) : ∃ a d t1 t2 t3 t4, v = .ref a ∧ g.get? a = some (instObj 155 d) ∧ g.get? d = some (decD P x t1 t2 t3 t4) := D
theorem DecAt.ext {P : Params} {g h : Heap} {v : Value} {x : Int} (D : DecAt P g v x) (e : Ext g h) : DecAt P h v x := D.mono fun _ _ q => e _ _ q
theorem DecAt.base {P : Params} {g h : Heap} {L : Addr} {m : Str → Option Value} {v : Value} {x : Int} (F : Fr g L h m) (D : DecAt P g v x) : DecAt P h v x := D.mono fun _ _ q => F.keep _ _ q
theorem DecAt.news {P : Params} {g h : Heap} {L a d : Addr} {news : List (Addr × Obj)} {x : Int} {t1 t2 t3 t4 : Tok} (N : News g L h news) (h1 : (a, instObj 155 d) ∈ news) (h2 : (d, decD P x t1 t2 t3 t4) ∈ news) : DecAt P h (.ref a) x :=
  ⟨a, d, t1, t2, t3, t4, rfl, (N _ h1).1, (N _ h2).1⟩
theorem kn_at {g h : Heap} {L : Addr} {m : Str → Option Value} {news : List (Addr × Obj)} (F : Fr g L h m) (N : News g L h news) : ∀ a o, Kn g news a o → h.get? a = some o :=
  fun _ _ q => q.elim (fun q => F.keep _ _ q) fun q => (N _ q).1
theorem kn_mono {g : Heap} {n n' : List (Addr × Obj)} (s : ∀ p ∈ n, p ∈ n') : ∀ a o, Kn g n a o → Kn g n' a o := fun _ _ q => q.imp id fun q => s _ q
theorem kn_base {g : Heap} {n : List (Addr × Obj)} : ∀ a o, At g a o → Kn g n a o := fun _ _ q => .inl q
theorem DecAt.kn {P : Params} {g h : Heap} {L : Addr} {m : Str → Option Value} {news news' : List (Addr × Obj)} {v : Value} {x : Int} (F : Fr g L h m) (N : News g L h news') (D : DecG P (Kn g news) v x) (s : ∀ p ∈ news, p ∈ news') : DecAt P h v x :=
  D.mono fun a o q => kn_at F N a o (kn_mono s a o q)
abbrev matD (P : Params) (v1 v2 v3 v4 v5 v6 : Value) (t1 t2 t3 t4 t5 t6 : Tok) : Obj := dictOf [⟨PyData.keyHash P (Str.ofString "a"), .str (Str.ofString "a") t1, v1⟩, ⟨PyData.keyHash P (Str.ofString "b"), .str (Str.ofString "b") t2, v2⟩, ⟨PyData.keyHash P (Str.ofString "c"), .str (Str.ofString "c") t3, v3⟩,
  ⟨PyData.keyHash P (Str.ofString "d"), .str (Str.ofString "d") t4, v4⟩, ⟨PyData.keyHash P (Str.ofString "e"), .str (Str.ofString "e") t5, v5⟩, ⟨PyData.keyHash P (Str.ofString "f"), .str (Str.ofString "f") t6, v6⟩] 6
inductive OMatD (P : Params) (v1 v2 v3 v4 v5 v6 : Value) : List (Addr × Obj) → Value → Prop
  | mk (x dx : Addr) (t1 t2 t3 t4 t5 t6 : Tok) : OMatD P v1 v2 v3 v4 v5 v6 [(x, instObj 251 dx), (dx, matD P v1 v2 v3 v4 v5 v6 t1 t2 t3 t4 t5 t6)] (.ref x)
inductive OPair (P : Params) (X Y : Int) : List (Addr × Obj) → Value → Prop
  | mk (t a1 d1 a2 d2 : Addr) (p1 p2 p3 p4 q1 q2 q3 q4 : Tok) : OPair P X Y [(t, tupO [.ref a1, .ref a2]), (a1, instObj 155 d1), (d1, decD P X p1 p2 p3 p4), (a2, instObj 155 d2), (d2, decD P Y q1 q2 q3 q4)] (.ref t)
theorem OPair.of {P : Params} {X Y X' Y' : Int} {t a1 d1 a2 d2 : Addr} {p1 p2 p3 p4 q1 q2 q3 q4 : Tok} (e1 : X' = X) (e2 : Y' = Y) : OPair P X Y [(t, tupO [.ref a1, .ref a2]), (a1, instObj 155 d1), (d1, decD P X' p1 p2 p3 p4), (a2, instObj 155 d2), (d2, decD P Y' q1 q2 q3 q4)] (.ref t) := by
  subst e1; subst e2; exact .mk ..
/-- an old object of the args -/
inductive OOld (P : Params) (G : Addr → Obj → Prop) (x : Int) : List (Addr × Obj) → Value → Prop
  | mk (v : Value) (D : DecG P G v x) : OOld P G x [] v
theorem OOld.of {P : Params} {G : Addr → Obj → Prop} {x y : Int} {v : Value} (D : DecG P G v y) (e : y = x) : OOld P G x [] v := e ▸ .mk v D
theorem instAt_base {g h : Heap} {L x C dx : Addr} {m : Str → Option Value} {od : Obj} {sl : Array (Option Value)} (F : Fr g L h m) (h1 : g.get? x = some ⟨.ref C, some dx, .plain, sl⟩) (h2 : g.get? dx = some od) :
    W.InstAt h x ⟨.ref C, some dx, .plain, sl⟩ C (some od) := ⟨F.keep _ _ h1, rfl, rfl, F.keep _ _ h2⟩

theorem while_no {prog : Program} {w : World} {A : Around} {E : Value → Shared → Prop} {Q : Flow → Shared → Prop} {s : Shared} {env : Env} {test : Expr} {body : List Stmt} {pos : Pos}
    (h : wpAny (model prog w) A (isTrue test env (eval test env)) (fun b s₂ => if b = true then False else Q .next s₂) (fun _ _ => False) s) : wpAny (model prog w) A (exec (.While test body [] pos) env) Q E s := by
  refine wpAny_While (codeAny_whileLoop (fun _ s' => s' = s) ?_ 0 rfl)
  rintro n s' rfl
  refine wpAny_mono h (fun b s₂ h₂ => ?_) fun _ _ x => x.elim
  cases b with
  | false =>
    simp only [Bool.false_eq_true, if_false] at h₂ ⊢
    exact wpAny_execs_nil h₂
  | true =>
    simp only [if_true] at h₂

section
variable {prog : Program} {w : World} {A : Around} {E : Value → Shared → Prop} {Q : Value → Shared → Prop} {s : Shared} {h₀ : Heap} {L : Addr} {m : Str → Option Value} {news : List (Addr × Obj)}
theorem mul_one_r {a : Int} {t u : Tok} (h : Q (.int a s.toks) { s with toks := s.toks + 1 }) : wpAny (model prog w) A (binaryOp .Mult (.int a t) (.int 1 u)) Q E s :=
  PyProof.Rows.mul_int (by rw [Int.mul_one]; exact h) (IntMulOk.of_right (by decide +kernel))
theorem pow_zero_r {t u : Tok} (h : Q (.int 1 s.toks) { s with toks := s.toks + 1 }) : wpAny (model prog w) A (binaryOp .Pow (.int 10 t) (.int 0 u)) Q E s :=
  pow_int_small (by decide) (by decide) (by decide) h
theorem sub_zero_r {t u : Tok} (h : Q (.int 0 s.toks) { s with toks := s.toks + 1 }) : wpAny (model prog w) A (binaryOp .Sub (.int 0 t) (.int 0 u)) Q E s :=
  PyProof.Rows.sub_int h
theorem add_zero_r {t u : Tok} (h : Q (.int 0 s.toks) { s with toks := s.toks + 1 }) : wpAny (model prog w) A (binaryOp .Add (.int 0 t) (.int 0 u)) Q E s :=
  PyProof.Rows.add_int h
theorem len_lit {l : Addr} {items : Array Value} (n : Nat) (hl : s.heap.IsList l items) (hn : items.size = n) (hb : (n : Int) < 2 ^ 63) (h : Q (.int n (s.toks + 1)) { s with toks := s.toks + 1 + 1 }) :
    wpAny (model prog w) A (call (.builtin "len") [.ref l]) Q E s := PyProof.Rows.len_list hl (by rw [hn]; exact hb) (by rw [hn]; exact h)
/-- a small int -/
def Sm (k : Int) : Prop := -1000000000000 ≤ k ∧ k ≤ 1000000000000
theorem imo {n k : Int} (h : Sm k) : IntMulOk n k := IntMulOk.of_right (intBits_le_64 (by have := h.1; omega) (by have := h.2; omega))
theorem max_zero {t u : Tok} (hh : A.handled = none) (F : Fr h₀ L s.heap m) (N : News h₀ L s.heap news)
    (h : ∀ h' tk t', Fr h₀ L h' m → News h₀ L h' news → Q (.int 0 t') { s with heap := h', toks := tk }) : wpAny (model prog w) A (call (.builtin "max") [.int 0 t, .int 0 u]) Q E s :=
  max_two_N hh F N fun h' tk F' N' => h h' tk t F' N'
end

theorem units_make (A : Around) (v : Value) (vs : List Value) : (A.under (.builtin "type.__call__" ⟨v :: vs, []⟩)).units = A.units + 1 := by
  show A.units + (Code.builtin "type.__call__" ⟨v :: vs, []⟩).cUnits = _
  have : (Code.builtin "type.__call__" ⟨v :: vs, []⟩).cUnits = 1 := by rfl
  rw [this]

inductive OInt (x : Int) : List (Addr × Obj) → Value → Prop
  | mk (t : Tok) : OInt x [] (.int x t)
theorem OInt.of {x y : Int} (t : Tok) (e : y = x) : OInt x [] (.int y t) := e ▸ .mk t
inductive OTup3 (x y z : Int) : List (Addr × Obj) → Value → Prop
  | mk (a : Addr) (t1 t2 t3 : Tok) : OTup3 x y z [(a, tupO [.int x t1, .int y t2, .int z t3])] (.ref a)
inductive OTup2 (x y : Int) : List (Addr × Obj) → Value → Prop
  | mk (a : Addr) (t1 t2 : Tok) : OTup2 x y [(a, tupO [.int x t1, .int y t2])] (.ref a)
theorem OTup3.of {x y z x' y' z' : Int} (a : Addr) (t1 t2 t3 : Tok) (e1 : x' = x) (e2 : y' = y) (e3 : z' = z) : OTup3 x y z [(a, tupO [.int x' t1, .int y' t2, .int z' t3])] (.ref a) := e1 ▸ e2 ▸ e3 ▸ .mk a t1 t2 t3
inductive OVal (v : Value) : List (Addr × Obj) → Value → Prop
  | mk : OVal v [] v
inductive ODec (P : Params) (x : Int) : List (Addr × Obj) → Value → Prop
  | mk (a d : Addr) (t1 t2 t3 t4 : Tok) (h : d < a) : ODec P x [(a, instObj 155 d), (d, decD P x t1 t2 t3 t4)] (.ref a)

theorem room9 {a d D R : Nat} (h : a + D < R) (e : 1 + d ≤ D) : a + 1 + d < R := Nat.lt_of_le_of_lt (Nat.add_assoc a 1 d ▸ Nat.add_le_add_left e a) h
theorem room0 {a D R : Nat} (h : a + D < R) : a < R := Nat.lt_of_le_of_lt (Nat.le_add_right a D) h
theorem units9 {a d D R : Nat} (h : a + 8 * D < R) (e : 3 + 8 * d ≤ 8 * D) : a + 3 + 8 * d < R := Nat.lt_of_le_of_lt (Nat.add_assoc a 3 (8 * d) ▸ Nat.add_le_add_left e a) h
theorem mem_next {α : Type} {a b c : α} {l : List α} (h : a ∈ c :: l) : a ∈ b :: c :: l := .tail _ h
theorem usePuD {prog : Program} {w : World} {p : Program} {loose : List Str} {mean : ExcName → Option Value} {mg mb : Str → Option Value} {dep : Nat} {f : Value} {vs : List Value} {s : Shared}
    {ps : Params} {x : Int}
    {dp un : Nat} {gd : Option (List Code)} {cn : Str} {cs : Scope} {a : Addr} {ccd : Value} {cl : List (Str × Addr)} {outer : List Env} {A₀ : Around} {base h₀ : Heap} {L : Addr} {m : Str → Option Value}
    {Q E : Value → Shared → Prop} {news : List (Addr × Obj)}
    (C : Pu prog w p loose mean mg mb dep f vs s.heap (ODec ps x))
    (B : Below A₀ base outer h₀) (F : Fr h₀ L s.heap m) (X : (hd.heap_39 w.params).In h₀) (N : News h₀ L s.heap news) (T : Top p loose mean mg mb h₀) (hk : cs.kind = .function)
    (hd : dp + dep < recursionLimit) (hu : un + 8 * dep < cLine)
    (h : ∀ a d t1 t2 t3 t4 h' tk', d < a → Fr h₀ L h' m → News h₀ L h' ((a, instObj 155 d) :: (d, decD ps x t1 t2 t3 t4) :: news) → (∀ p ∈ news, p.1 ≠ a ∧ p.1 ≠ d) → Q (.ref a) { s with heap := h', toks := tk' }) :
    wpAny (model prog w) (ktrTop dp un gd cn cs L a ccd cl outer) (call f vs) Q E s := usePu C B F X N T hk hd hu fun v h' tk' tl o F9 N9 l9 => by
  cases o
  exact h _ _ _ _ _ _ _ _ (by assumption) F9 N9 fun p hp => ⟨l9 _ (.head _) p hp, l9 _ (.tail _ (.head _)) p hp⟩
theorem usePuV {prog : Program} {w : World} {p : Program} {loose : List Str} {mean : ExcName → Option Value} {mg mb : Str → Option Value} {dep : Nat} {f : Value} {vs : List Value} {s : Shared}
    {x : Value}
    {dp un : Nat} {gd : Option (List Code)} {cn : Str} {cs : Scope} {a : Addr} {ccd : Value} {cl : List (Str × Addr)} {outer : List Env} {A₀ : Around} {base h₀ : Heap} {L : Addr} {m : Str → Option Value}
    {Q E : Value → Shared → Prop} {news : List (Addr × Obj)}
    (C : Pu prog w p loose mean mg mb dep f vs s.heap (OVal x))
    (B : Below A₀ base outer h₀) (F : Fr h₀ L s.heap m) (X : (hd.heap_39 w.params).In h₀) (N : News h₀ L s.heap news) (T : Top p loose mean mg mb h₀) (hk : cs.kind = .function)
    (hd : dp + dep < recursionLimit) (hu : un + 8 * dep < cLine)
    (h : ∀ h' tk', Fr h₀ L h' m → News h₀ L h' news → Q x { s with heap := h', toks := tk' }) :
    wpAny (model prog w) (ktrTop dp un gd cn cs L a ccd cl outer) (call f vs) Q E s := usePu C B F X N T hk hd hu fun v h' tk' tl o F9 N9 l9 => by
  cases o
  exact h _ _ F9 N9
theorem usePuI {prog : Program} {w : World} {p : Program} {loose : List Str} {mean : ExcName → Option Value} {mg mb : Str → Option Value} {dep : Nat} {f : Value} {vs : List Value} {s : Shared}
    {x : Int}
    {dp un : Nat} {gd : Option (List Code)} {cn : Str} {cs : Scope} {a : Addr} {ccd : Value} {cl : List (Str × Addr)} {outer : List Env} {A₀ : Around} {base h₀ : Heap} {L : Addr} {m : Str → Option Value}
    {Q E : Value → Shared → Prop} {news : List (Addr × Obj)}
    (C : Pu prog w p loose mean mg mb dep f vs s.heap (OInt x))
    (B : Below A₀ base outer h₀) (F : Fr h₀ L s.heap m) (X : (hd.heap_39 w.params).In h₀) (N : News h₀ L s.heap news) (T : Top p loose mean mg mb h₀) (hk : cs.kind = .function)
    (hd : dp + dep < recursionLimit) (hu : un + 8 * dep < cLine)
    (h : ∀ t h' tk', Fr h₀ L h' m → News h₀ L h' news → Q (.int x t) { s with heap := h', toks := tk' }) :
    wpAny (model prog w) (ktrTop dp un gd cn cs L a ccd cl outer) (call f vs) Q E s := usePu C B F X N T hk hd hu fun v h' tk' tl o F9 N9 l9 => by
  cases o
  exact h _ _ _ F9 N9
theorem usePu3 {prog : Program} {w : World} {p : Program} {loose : List Str} {mean : ExcName → Option Value} {mg mb : Str → Option Value} {dep : Nat} {f : Value} {vs : List Value} {s : Shared}
    {x y z : Int}
    {dp un : Nat} {gd : Option (List Code)} {cn : Str} {cs : Scope} {a : Addr} {ccd : Value} {cl : List (Str × Addr)} {outer : List Env} {A₀ : Around} {base h₀ : Heap} {L : Addr} {m : Str → Option Value}
    {Q E : Value → Shared → Prop} {news : List (Addr × Obj)}
    (C : Pu prog w p loose mean mg mb dep f vs s.heap (OTup3 x y z))
    (B : Below A₀ base outer h₀) (F : Fr h₀ L s.heap m) (X : (hd.heap_39 w.params).In h₀) (N : News h₀ L s.heap news) (T : Top p loose mean mg mb h₀) (hk : cs.kind = .function)
    (hd : dp + dep < recursionLimit) (hu : un + 8 * dep < cLine)
    (h : ∀ a t1 t2 t3 h' tk', Fr h₀ L h' m → News h₀ L h' ((a, tupO [.int x t1, .int y t2, .int z t3]) :: news) → Q (.ref a) { s with heap := h', toks := tk' }) :
    wpAny (model prog w) (ktrTop dp un gd cn cs L a ccd cl outer) (call f vs) Q E s := usePu C B F X N T hk hd hu fun v h' tk' tl o F9 N9 l9 => by
  cases o
  exact h _ _ _ _ _ _ F9 N9
def MatG (P : Params) (G : Addr → Obj → Prop) (v : Value) (a b c d e f : Int) : Prop := ∃ x dx v1 v2 v3 v4 v5 v6 t1 t2 t3 t4 t5 t6, v = .ref x ∧ G x (instObj 251 dx) ∧ G dx (matD P v1 v2 v3 v4 v5 v6 t1 t2 t3 t4 t5 t6) ∧
  DecG P G v1 a ∧ DecG P G v2 b ∧ DecG P G v3 c ∧ DecG P G v4 d ∧ DecG P G v5 e ∧ DecG P G v6 f
theorem MatG.el {P : Params} {G : Addr → Obj → Prop} {v : Value} {a b c d e f : Int} {r : Prop} (D : MatG P G v a b c d e f) (k : ∀ x dx v1 v2 v3 v4 v5 v6 t1 t2 t3 t4 t5 t6, v = .ref x → G x (instObj 251 dx) → G dx (matD P v1 v2 v3 v4 v5 v6 t1 t2 t3 t4 t5 t6) →
    DecG P G v1 a → DecG P G v2 b → DecG P G v3 c → DecG P G v4 d → DecG P G v5 e → DecG P G v6 f → r) : r :=
  ex14 D fun x dx v1 v2 v3 v4 v5 v6 t1 t2 t3 t4 t5 t6 z => and9 z (k x dx v1 v2 v3 v4 v5 v6 t1 t2 t3 t4 t5 t6)
theorem MatG.mono {P : Params} {G H : Addr → Obj → Prop} {v : Value} {a b c d e f : Int} (D : MatG P G v a b c d e f) (k : ∀ a o, G a o → H a o) : MatG P H v a b c d e f :=
  D.el fun x dx v1 v2 v3 v4 v5 v6 t1 t2 t3 t4 t5 t6 q h1 h2 g1 g2 g3 g4 g5 g6 =>
  ⟨x, dx, v1, v2, v3, v4, v5, v6, t1, t2, t3, t4, t5, t6, q, k _ _ h1, k _ _ h2, g1.mono k, g2.mono k, g3.mono k, g4.mono k, g5.mono k, g6.mono k⟩
theorem MatG.base {P : Params} {g h : Heap} {L : Addr} {m : Str → Option Value} {v : Value} {a b c d e f : Int} (F : Fr g L h m) (D : MatG P (At g) v a b c d e f) : MatG P (At h) v a b c d e f := D.mono fun _ _ q => F.keep _ _ q
abbrev In (tl : List (Addr × Obj)) : Addr → Obj → Prop := fun a o => (a, o) ∈ tl
theorem DecG.mem {P : Params} {tl : List (Addr × Obj)} {a d : Addr} {x : Int} {t1 t2 t3 t4 : Tok} (h1 : (a, instObj 155 d) ∈ tl) (h2 : (d, decD P x t1 t2 t3 t4) ∈ tl) : DecG P (In tl) (.ref a) x := ⟨a, d, t1, t2, t3, t4, rfl, h1, h2⟩
theorem DecG.eq {P : Params} {G : Addr → Obj → Prop} {v : Value} {x y : Int} (D : DecG P G v x) (e : x = y) : DecG P G v y := e ▸ D
theorem MatG.mem {P : Params} {tl : List (Addr × Obj)} {x dx : Addr} {v1 v2 v3 v4 v5 v6 : Value} {t1 t2 t3 t4 t5 t6 : Tok} {a b c d e f : Int} (h1 : (x, instObj 251 dx) ∈ tl) (h2 : (dx, matD P v1 v2 v3 v4 v5 v6 t1 t2 t3 t4 t5 t6) ∈ tl)
    (g1 : DecG P (In tl) v1 a) (g2 : DecG P (In tl) v2 b) (g3 : DecG P (In tl) v3 c) (g4 : DecG P (In tl) v4 d) (g5 : DecG P (In tl) v5 e) (g6 : DecG P (In tl) v6 f) : MatG P (In tl) (.ref x) a b c d e f :=
  ⟨x, dx, v1, v2, v3, v4, v5, v6, t1, t2, t3, t4, t5, t6, rfl, h1, h2, g1, g2, g3, g4, g5, g6⟩

theorem hG_base {G : Addr → Obj → Prop} {g h : Heap} {L : Addr} {m : Str → Option Value} (F : Fr g L h m) (hG : ∀ a o, G a o → g.get? a = some o) : ∀ a o, G a o → h.get? a = some o := fun _ _ q => F.keep _ _ (hG _ _ q)
abbrev GI (G : Addr → Obj → Prop) (tl : List (Addr × Obj)) : Addr → Obj → Prop := fun a o => G a o ∨ (a, o) ∈ tl
def BoxG (P : Params) (G : Addr → Obj → Prop) (v : Value) (a b c d : Int) : Prop := ∃ t v1 v2 v3 v4, v = .ref t ∧ G t (tupO [v1, v2, v3, v4]) ∧ DecG P G v1 a ∧ DecG P G v2 b ∧ DecG P G v3 c ∧ DecG P G v4 d
theorem BoxG.el {P : Params} {G : Addr → Obj → Prop} {v : Value} {a b c d : Int} {r : Prop} (D : BoxG P G v a b c d) (k : ∀ t v1 v2 v3 v4, v = .ref t → G t (tupO [v1, v2, v3, v4]) → DecG P G v1 a → DecG P G v2 b → DecG P G v3 c → DecG P G v4 d → r) : r :=
  ex5 D fun t v1 v2 v3 v4 z => and6 z (k t v1 v2 v3 v4)
theorem BoxG.mono {P : Params} {G H : Addr → Obj → Prop} {v : Value} {a b c d : Int} (D : BoxG P G v a b c d) (k : ∀ a o, G a o → H a o) : BoxG P H v a b c d :=
  D.el fun t v1 v2 v3 v4 q h g1 g2 g3 g4 =>
  ⟨t, v1, v2, v3, v4, q, k _ _ h, g1.mono k, g2.mono k, g3.mono k, g4.mono k⟩
theorem gi_l {G : Addr → Obj → Prop} {tl : List (Addr × Obj)} : ∀ a o, G a o → GI G tl a o := fun _ _ q => .inl q
theorem gi_r {G : Addr → Obj → Prop} {tl : List (Addr × Obj)} : ∀ a o, In tl a o → GI G tl a o := fun _ _ q => .inr q
theorem gi_kn {g : Heap} {tl news : List (Addr × Obj)} : ∀ a o, GI (Kn g news) tl a o → Kn g (tl ++ news) a o := fun _ _ q => q.elim (fun q => q.imp id fun q => List.mem_append.mpr (.inr q)) fun q => .inr (List.mem_append.mpr (.inl q))
theorem BoxG.old {P : Params} {G : Addr → Obj → Prop} {t : Addr} {v1 v2 v3 v4 : Value} {a b c d : Int} {tl : List (Addr × Obj)} (h : (t, tupO [v1, v2, v3, v4]) ∈ tl) (g1 : DecG P G v1 a) (g2 : DecG P G v2 b) (g3 : DecG P G v3 c) (g4 : DecG P G v4 d) : BoxG P (GI G tl) (.ref t) a b c d :=
  ⟨t, v1, v2, v3, v4, rfl, .inr h, g1.mono gi_l, g2.mono gi_l, g3.mono gi_l, g4.mono gi_l⟩
end


-- QzLoop

section
open PySem.Spec
section
variable {prog : Program} {w : World} {A : Around} {E : Value → Shared → Prop} {s : Shared} {h₀ : Heap} {env : Env} {target : Expr} {body : List Stmt} {Q : Flow → Shared → Prop}

/-- a for over a list by what holds between its turns (J speaks of the turn's number, the frame's names and the ledger) -/
theorem iter_inv {ax : Addr} {its : Array Value} {m₀ : Str → Option Value} {news : List (Addr × Obj)} (J : Nat → (Str → Option Value) → List (Addr × Obj) → Prop)
    (hh : A.handled = none) (F : Fr h₀ env.locals s.heap m₀) (N : News h₀ env.locals s.heap news) (hl : s.heap.IsList ax its) (hL : env.locals ≠ ax) (hJ : J 0 m₀ news)
    (step : ∀ (I : Addr) i v m₁ nw h₁ tk₁ own, its[i]? = some v → J i m₁ nw → (∀ p ∈ own, p.1 = I ∨ p.1 = ax) → (∃ o, (I, o) ∈ own) → (∀ p ∈ nw, p.1 ≠ I) → (∀ p ∈ news, p.1 ≠ I) → Fr h₀ env.locals h₁ m₁ → News h₀ env.locals h₁ (own ++ nw) →
      wpAny (model prog w) A (assign target env v) (fun _ s₃ => wpAny (model prog w) A (execs body env)
        (LoopStepV h₀ env.locals [I] own (J (i + 1)) { s with heap := h₁, toks := tk₁ } (fun v s' => Q (.ret v) s') fun s' => Q .next s') E s₃) E { s with heap := h₁, toks := tk₁ })
    (fin : ∀ h' tk m' nw, Fr h₀ env.locals h' m' → News h₀ env.locals h' nw → J its.size m' nw → Q .next { s with heap := h', toks := tk }) :
    wpAny (model prog w) A (pyIter (.ref ax)) (fun it s₂ => TurnsAt prog w A h₀ env target body Q E it s₂) E s := by
  have hlt : ax < s.heap.objs.size := by obtain ⟨_, e, _⟩ := hl; exact Heap.lt_size e
  have hne : ax ≠ s.heap.objs.size := Nat.ne_of_lt hlt
  refine wpAny_pyIter_list hl ?_
  have up : ∀ b o', s.heap.get? b = some o' → (s.heap.push { cls := .type "list_iterator", data := .fields #[.ref ax, .int 0 0] }).get? b = some o' := fun b o' e => Heap.get?_push_of_some _ e
  refine ⟨s.heap.objs.size, _, _, _, _, _, _, m₀, news, J, rfl, KTurns.ofWalks (Walks.list hh s.heap.objs.size ax hne its) fun i v s Q E st q => letGo_listiter st.1 q, ?_, ?_, ?_, ⟨⟨_, Heap.get?_push_size _ rfl, rfl, rfl⟩, hl.at fun o e => up _ _ e⟩, F.keeps up, N.grown up, hJ, ?_, ?_⟩
  · intro hm
    rcases List.mem_cons.mp hm with e | hm
    · exact absurd F.ns.lt (e ▸ Nat.lt_irrefl _)
    · exact hL (List.mem_singleton.mp hm)
  · intro b hb
    rw [List.mem_singleton.mp hb]; exact next_is_new F
  · intro p hp hI
    exact absurd (Heap.lt_size (N p hp).1) ((List.mem_singleton.mp hI) ▸ Nat.lt_irrefl _)
  · intro i v m₁ nw h₁ tk₁ own hi hP hJ hnw hown hg hmem hst F₁ N₁
    refine step s.heap.objs.size i v m₁ nw h₁ tk₁ own hP hJ (fun p hp => ?_) (by obtain ⟨oI, hoI, _⟩ := hst.1; exact ⟨oI, hmem _ (by simp) (next_is_new F) _ hoI⟩) (fun p hp e => hnw p hp (by rw [e]; exact .head _)) (fun p hp => Nat.ne_of_lt (Heap.lt_size (N p hp).1)) F₁ N₁
    have := hown p hp
    simpa using this
  · intro h' tk m' nw F' N' _ hJ'
    exact fin h' tk m' nw F' N' hJ'
theorem iter_nil {ax : Addr} {m₀ : Str → Option Value} {news : List (Addr × Obj)}
    (hh : A.handled = none) (F : Fr h₀ env.locals s.heap m₀) (N : News h₀ env.locals s.heap news) (hl : s.heap.IsList ax #[]) (hL : env.locals ≠ ax)
    (fin : ∀ h' tk, Fr h₀ env.locals h' m₀ → News h₀ env.locals h' news → Q .next { s with heap := h', toks := tk }) :
    wpAny (model prog w) A (pyIter (.ref ax)) (fun it s₂ => TurnsAt prog w A h₀ env target body Q E it s₂) E s :=
  iter_inv (fun _ m nw => m = m₀ ∧ nw = news) hh F N hl hL ⟨rfl, rfl⟩ (fun _ i _ _ _ _ _ _ hi => by simp at hi) fun h' tk m' nw F' N' e => by
    refine and2 e ?_
    try clear e
    intro e9r2 e9r3
    subst e9r2
    subst e9r3
    exact fin h' tk F' N'
theorem L_ne {h : Heap} {L l : Addr} {m : Str → Option Value} {its : Array Value} (F : Fr h₀ L h m) (hl : h.IsList l its) : L ≠ l := fun e => by
  refine ex3 (F.ns) ?_
  intro oL es ep zz9
  refine and3 zz9 ?_
  try clear zz9
  intro h1 h2 _
  refine ex1 hl ?_
  try clear hl
  intro o zz9
  refine and3 zz9 ?_
  try clear zz9
  intro h3 _ zz9
  refine ex1 zz9 ?_
  try clear zz9
  intro n h4
  rw [e, h3] at h1
  cases h1
  rw [h4] at h2
  cases h2
end
end

theorem fill : PySem.Challenge.rw_qz0078_01 = PySem.Challenge.rw_qz0078_01 ∧ hd.heap_39 = hd.heap_39 := by
  k_fill
  exact ⟨rfl, rfl⟩


-- QzF1
local macro_rules | `(tactic| k_inst) => `(tactic| (refine' instAt_base ?F ?h1 ?h2; (case F => k_asm); (case h1 => assumption); (case h2 => assumption)))
local macro_rules | `(tactic| walk_at "QZ dec") => `(tactic| first | (with_reducible assumption) | exact DecAt.base (by k_asm) (by with_reducible assumption) | (refine' DecAt.news ?N ?h1 ?h2; (case N => k_asm); (case h1 => k_mem); (case h2 => k_mem)))
local macro_rules | `(tactic| walk_at "QZ sub") => `(tactic| first | exact List.forall_mem_nil _ | (refine' List.forall_mem_cons.mpr ⟨?a, ?b⟩; (case a => k_mem); (case b => walk_at "QZ sub")))
local macro_rules | `(tactic| walk_at "QZ ext") => `(tactic| first | exact ext_fr (by k_asm) | exact Ext.trans (by assumption) (ext_fr (by k_asm)))
local macro_rules | `(tactic| walk_at "QZ new") => `(tactic| first | exact newIn_nil | exact newIn_of (by k_asm) (by walk_at "QZ sub") | exact newIn_of2 (by assumption) (by k_asm) (by walk_at "QZ sub"))
local macro_rules | `(tactic| walk_at "QZ enter1") => `(tactic| ((case kA => exact rfl); (case kF => exact rfl); (case kK => assumption); (case k1 => k_asm); (case k2 => k_asm); (case k3 => k_asm); (case k5 => k_asm); (case k6 => k_is); (case k7 => k_is); (case k8 => first | exact room0 (by assumption) | ktr_room); (case k9 => exact BindsTo.of_eq rfl); (case c5 => decide); (case kB => exact locs rfl); (case c2 => exact rfl); (case c3 => exact rfl); (case c4 => exact rfl)))
local macro_rules | `(tactic| walk_at "QZ mk1") => `(tactic| ((case kA => exact rfl); (case kF => exact rfl); (case kK => assumption); (case k1 => k_asm); (case k2 => k_asm); (case k3 => k_asm); (case k5 => k_asm); (case km => k_is); (case ki => k_is); (case kf => k_is); (case k6 => k_is); (case k7 => k_is); (case k8 => first | exact room0 (by assumption) | ktr_room); (case kA2 => exact rfl); (case k9 => intro x s; exact BindsTo.of_eq rfl); (case c5 => decide); (case kB => intro x; exact locs rfl); (case c2 => exact rfl); (case c3 => exact rfl); (case c4 => exact rfl)))
local macro_rules | `(tactic| walk_at "exec While") => `(tactic| (k_here; refine while_no ?_; (try k_fold)))
local macro_rules | `(tactic| walk_at "QZ use") => `(tactic| ((case q1 => k_asm); (case q2 => k_asm); (case q3 => k_asm); (case q4 => k_asm); (case q5 => k_asm); (case q6 => first | exact rfl | assumption); (case q7 => first | exact room9 (by assumption) (by decide) | decide | ktr_room); (case q8 => first | exact units9 (by assumption) (by decide) | decide | ktr_units | ((try simp only [units_make, units_in1, units_deeper, Around.mark_units] at *); (try dsimp only [ktrTop] at *); omega)); k_whole))
local macro_rules | `(tactic| walk_at "binaryOp Mult int int") => `(tactic| (with_reducible refine mul_one_r ?_))
local macro_rules | `(tactic| walk_at "binaryOp Pow int int") => `(tactic| (with_reducible refine pow_zero_r ?_))
local macro_rules | `(tactic| walk_at "call builtin:max") => `(tactic| (k_here; (with_reducible show wpAny _ _ (call (Value.builtin _) [Value.int _ _, Value.int _ _]) _ _ _); (with_unfolding_all refine' max_zero ?k0 ?k1 ?k2 ?_; (case k0 => rfl); (case k1 => k_asm); (case k2 => k_asm); k_whole); intro h' tk' t' F' N'; (try k_sweep)))
local macro_rules | `(tactic| walk_at "binaryOp Sub int int") => `(tactic| (with_reducible refine sub_zero_r ?_))
local macro_rules | `(tactic| walk_at "binaryOp Mult int int") => `(tactic| (with_reducible refine PyProof.Rows.mul_int ?_ (by with_reducible assumption)))
local macro_rules | `(tactic| walk_at "binaryOp Add int int") => `(tactic| (with_reducible refine add_zero_r ?_))
local macro_rules | `(tactic| walk_at "exec For") => `(tactic| (k_here; (rename Fr _ _ _ _ => lF'); (with_unfolding_all refine' For_turns lF' ?_; k_whole)))
local macro_rules | `(tactic| walk_at "call builtin:len") => `(tactic| (k_here; (with_reducible show wpAny _ _ (call (Value.builtin "len") [Value.ref _]) _ _ _); (first | (with_unfolding_all refine' len_lit 4 ?k1 ?k2 ?k3 ?_; (case k1 => is_list); (case k2 => rfl)) | (with_unfolding_all refine' len_lit 2 ?k1 ?k2 ?k3 ?_; (case k1 => is_list); (case k2 => rfl)) | (with_unfolding_all refine' len_lit 8 ?k1 ?k2 ?k3 ?_; (case k1 => is_list); (case k2 => rfl)) | (with_unfolding_all refine' len_lit 16 ?k1 ?k2 ?k3 ?_; (case k1 => is_list); (case k2 => rfl))); (case k3 => decide); k_whole))
local macro_rules | `(tactic| k_ne) => `(tactic| first | assumption | exact Ne.symm (by assumption))
local macro_rules | `(tactic| walk_at "QZ mat") => `(tactic| first | (with_reducible assumption) | exact MatG.base (by k_asm) (by with_reducible assumption))
local macro_rules | `(tactic| walk_at "QZ hG") => `(tactic| first | exact hG_base (by k_asm) (by assumption) | exact kn_at (by k_asm) (by k_asm) | exact Fr.keep (by k_asm))
local macro_rules | `(tactic| walk_at "QZ decG") => `(tactic| with_reducible assumption)
section
section
variable {prog : Program} {w : World} {p : Program} {loose : List Str} {mean : ExcName → Option Value} {mg mb : Str → Option Value} {g : Heap}
end
def sgn (n : Int) : Int := if n = 0 then 0 else if 0 < n then 1 else -1
section
variable {prog : Program} {w : World} {p : Program} {loose : List Str} {mean : ExcName → Option Value} {mg mb : Str → Option Value} {g : Heap}

set_option maxHeartbeats 8000000 in
theorem c_sign_of (n : Int) (t : Tok) : Pu prog w p loose mean mg mb 2 (.ref 173) [.int n t] g (OInt (sgn n)) := by
  intro dp un gd cn cs a ccd cl outer A₀ base h₀ L m gens drawn toks os Q E B F X T hk hd hu hret
  refine wpAny_call ?_
  k_dflt (refine' enterP (binds := [(Str.ofString "number", .int n t)]) ?k1 ?k2 ?k3 ?k5 ?kA ?kF ?kK ?k6 ?k7 ?k8 ?k9 ?kB ?_ ?c2 ?c3 ?c4 ?c5)
  walk_at "QZ enter1"
  intro L' h' F' B' X' T'
  have N' := News.nil (h₀ := g) (h := h') (L := L')
  dsimp only at F' B' X' T'
  clear B F X T
  show wpAny _ _ _ _ _ _
  k_fold
  k_steps
  all_goals (exact hret _ _ _ _ (by walk_at "QZ ext") (by walk_at "QZ new") (OInt.of _ (by (try unfold sgn); (repeat' split) <;> omega)))

set_option maxHeartbeats 8000000 in
theorem c_Decimal (n : Int) (t u : Tok) : Pu prog w p loose mean mg mb 2 (.ref 155) [.int n t, .int 0 u] g (ODec w.params n) := by
  intro dp un gd cn cs a ccd cl outer A₀ base h₀ L m gens drawn toks os Q E B F X T hk hd hu hret
  refine wpAny_call ?_
  k_dflt (refine' mkP (binds := [(Str.ofString "top", .int n t), (Str.ofString "places", .int 0 u)]) ?k1 ?k2 ?k3 ?k5 ?kA ?kF ?kK ?km ?ki ?kf ?k6 ?k7 ?k8 ?kA2 ?k9 ?kB ?_ ?c2 ?c3 ?c4 ?c5)
  walk_at "QZ mk1"
  intro x d g' L' h' kE kS kx kL F' N' B' X' T'
  replace kx := ltN kx
  clear B F X T
  show wpAny _ _ _ _ _ _
  k_fold
  k_steps
  all_goals (exact ⟨rfl, hret _ _ _ _ (by walk_at "QZ ext") (by walk_at "QZ new") (ODec.mk _ _ _ _ _ _ kx)⟩)
end
end


-- QzF2
local macro_rules | `(tactic| walk_at "call ref") => `(tactic| (k_here; (with_reducible show wpAny _ _ (call (Value.ref 155) _) _ _ _); k_dflt (refine' usePuD (c_Decimal _ _ _) ?q1 ?q2 ?q3 ?q4 ?q5 ?q6 ?q7 ?q8 ?_; walk_at "QZ use"); intro a9 d9 p9 q9 r9 s9 h9 tk9 n9 F9 N9 l9; clear l9; (try k_sweep); (try k_fold)))
local macro_rules | `(tactic| walk_at "call ref") => `(tactic| (k_here; (with_reducible show wpAny _ _ (call (Value.ref 173) _) _ _ _); k_dflt (refine' usePuI (c_sign_of _ _) ?q1 ?q2 ?q3 ?q4 ?q5 ?q6 ?q7 ?q8 ?_; walk_at "QZ use"); intro t9 h9 tk9 F9 N9; (try k_sweep); (try k_fold)))
section
section
variable {prog : Program} {w : World} {p : Program} {loose : List Str} {mean : ExcName → Option Value} {mg mb : Str → Option Value} {g : Heap}

set_option maxHeartbeats 8000000 in
theorem c_decimal_of_int (n : Int) (t : Tok) : Pu prog w p loose mean mg mb 6 (.ref 180) [.int n t] g (ODec w.params n) := by
  intro dp un gd cn cs a ccd cl outer A₀ base h₀ L m gens drawn toks os Q E B F X T hk hd hu hret
  refine wpAny_call ?_
  k_dflt (refine' enterP (binds := [(Str.ofString "value", .int n t)]) ?k1 ?k2 ?k3 ?k5 ?kA ?kF ?kK ?k6 ?k7 ?k8 ?k9 ?kB ?_ ?c2 ?c3 ?c4 ?c5)
  walk_at "QZ enter1"
  intro L' h' F' B' X' T'
  have N' := News.nil (h₀ := g) (h := h') (L := L')
  dsimp only at F' B' X' T'
  clear B F X T
  show wpAny _ _ _ _ _ _
  k_fold
  k_steps
  all_goals (exact hret _ _ _ _ (by walk_at "QZ ext") (by walk_at "QZ new") (ODec.mk _ _ _ _ _ _ (by assumption)))

set_option maxHeartbeats 8000000 in
theorem c_decimal_of_dec {v : Value} {n : Int} (h1 : DecAt w.params g v n) : Pu prog w p loose mean mg mb 6 (.ref 180) [v] g (OVal v) := by
  have hv := h1
  refine DecG.rawC hv ?_
  intro a1 d1 t1 t2 t3 t4 e9r4 hx1 hd1
  subst e9r4
  intro dp un gd cn cs a ccd cl outer A₀ base h₀ L m gens drawn toks os Q E B F X T hk hd hu hret
  refine wpAny_call ?_
  k_dflt (refine' enterP (binds := [(Str.ofString "value", .ref a1)]) ?k1 ?k2 ?k3 ?k5 ?kA ?kF ?kK ?k6 ?k7 ?k8 ?k9 ?kB ?_ ?c2 ?c3 ?c4 ?c5)
  walk_at "QZ enter1"
  intro L' h' F' B' X' T'
  have N' := News.nil (h₀ := g) (h := h') (L := L')
  dsimp only at F' B' X' T'
  clear B F X T
  show wpAny _ _ _ _ _ _
  k_fold
  k_steps
  all_goals (exact hret _ _ _ _ (by walk_at "QZ ext") (by walk_at "QZ new") (OVal.mk))
end
end


-- QzF3
local macro_rules | `(tactic| walk_at "call ref") => `(tactic| (k_here; (with_reducible show wpAny _ _ (call (Value.ref 180) _) _ _ _); k_dflt (refine' usePuV (c_decimal_of_dec ?d0) ?q1 ?q2 ?q3 ?q4 ?q5 ?q6 ?q7 ?q8 ?_; (case d0 => walk_at "QZ dec"); walk_at "QZ use"); intro h9 tk9 F9 N9; (try k_sweep); (try k_fold)))
section
section
variable {prog : Program} {w : World} {p : Program} {loose : List Str} {mean : ExcName → Option Value} {mg mb : Str → Option Value} {g : Heap}

set_option maxHeartbeats 8000000 in
theorem c_at_one_scale {v u : Value} {n k : Int} (h1 : DecAt w.params g v n) (h2 : DecAt w.params g u k) : Pu prog w p loose mean mg mb 10 (.ref 187) [v, u] g (OTup3 n k 0) := by
  have hv := h1
  refine DecG.rawC hv ?_
  intro a1 d1 t1 t2 t3 t4 e9r5 hx1 hd1
  subst e9r5
  have hu := h2
  refine DecG.rawC hu ?_
  intro a2 d2 u1 u2 u3 u4 e9r6 hx2 hd2
  subst e9r6
  intro dp un gd cn cs a ccd cl outer A₀ base h₀ L m gens drawn toks os Q E B F X T hk hd hu hret
  refine wpAny_call ?_
  k_dflt (refine' enterP (binds := [(Str.ofString "one", .ref a1), (Str.ofString "other", .ref a2)]) ?k1 ?k2 ?k3 ?k5 ?kA ?kF ?kK ?k6 ?k7 ?k8 ?k9 ?kB ?_ ?c2 ?c3 ?c4 ?c5)
  walk_at "QZ enter1"
  intro L' h' F' B' X' T'
  have N' := News.nil (h₀ := g) (h := h') (L := L')
  dsimp only at F' B' X' T'
  clear B F X T
  show wpAny _ _ _ _ _ _
  k_fold
  k_steps
  all_goals (exact hret _ _ _ _ (by walk_at "QZ ext") (by walk_at "QZ new") (OTup3.of _ _ _ _ rfl rfl (by decide)))
end
end


-- QzF4

section
section
variable {prog : Program} {w : World} {p : Program} {loose : List Str} {mean : ExcName → Option Value} {mg mb : Str → Option Value} {g : Heap}
local macro_rules | `(tactic| walk_at "call ref") => `(tactic| (k_here; (with_reducible show wpAny _ _ (call (Value.ref 187) _) _ _ _); k_dflt (refine' usePu3 (c_at_one_scale ?d0 ?d1) ?q1 ?q2 ?q3 ?q4 ?q5 ?q6 ?q7 ?q8 ?_; (case d0 => walk_at "QZ dec"); (case d1 => walk_at "QZ dec"); walk_at "QZ use"); intro a9 p9 q9 r9 h9 tk9 F9 N9; (try k_sweep); (try k_fold)))

set_option maxHeartbeats 8000000 in
theorem c_plus {v u : Value} {n k : Int} (h1 : DecAt w.params g v n) (h2 : DecAt w.params g u k) : Pu prog w p loose mean mg mb 20 (.ref 82) [v, u] g (ODec w.params (n + k)) := by
  have hv := h1
  refine DecG.rawC hv ?_
  intro a1 d1 t1 t2 t3 t4 e9r7 hx1 hd1
  subst e9r7
  have hu := h2
  refine DecG.rawC hu ?_
  intro a2 d2 u1 u2 u3 u4 e9r8 hx2 hd2
  subst e9r8
  intro dp un gd cn cs a ccd cl outer A₀ base h₀ L m gens drawn toks os Q E B F X T hk hd hu hret
  refine wpAny_call ?_
  k_dflt (refine' enterP (binds := [(Str.ofString "self", .ref a1), (Str.ofString "other", .ref a2)]) ?k1 ?k2 ?k3 ?k5 ?kA ?kF ?kK ?k6 ?k7 ?k8 ?k9 ?kB ?_ ?c2 ?c3 ?c4 ?c5)
  walk_at "QZ enter1"
  intro L' h' F' B' X' T'
  have N' := News.nil (h₀ := g) (h := h') (L := L')
  dsimp only at F' B' X' T'
  clear B F X T
  show wpAny _ _ _ _ _ _
  k_fold
  k_steps
  all_goals (exact hret _ _ _ _ (by walk_at "QZ ext") (by walk_at "QZ new") (ODec.mk _ _ _ _ _ _ (by assumption)))

set_option maxHeartbeats 8000000 in
theorem c_times {v u : Value} {n k : Int} (h1 : DecAt w.params g v n) (h2 : DecAt w.params g u k) (hm : IntMulOk n k) : Pu prog w p loose mean mg mb 20 (.ref 96) [v, u] g (ODec w.params (n * k)) := by
  have hv := h1
  refine DecG.rawC hv ?_
  intro a1 d1 t1 t2 t3 t4 e9r9 hx1 hd1
  subst e9r9
  have hu := h2
  refine DecG.rawC hu ?_
  intro a2 d2 u1 u2 u3 u4 e9r10 hx2 hd2
  subst e9r10
  intro dp un gd cn cs a ccd cl outer A₀ base h₀ L m gens drawn toks os Q E B F X T hk hd hu hret
  refine wpAny_call ?_
  k_dflt (refine' enterP (binds := [(Str.ofString "self", .ref a1), (Str.ofString "other", .ref a2)]) ?k1 ?k2 ?k3 ?k5 ?kA ?kF ?kK ?k6 ?k7 ?k8 ?k9 ?kB ?_ ?c2 ?c3 ?c4 ?c5)
  walk_at "QZ enter1"
  intro L' h' F' B' X' T'
  have N' := News.nil (h₀ := g) (h := h') (L := L')
  dsimp only at F' B' X' T'
  clear B F X T
  show wpAny _ _ _ _ _ _
  k_fold
  k_steps
  all_goals (exact hret _ _ _ _ (by walk_at "QZ ext") (by walk_at "QZ new") (ODec.mk _ _ _ _ _ _ (by assumption)))

set_option maxHeartbeats 8000000 in
theorem c_compared {v u : Value} {n k : Int} (h1 : DecAt w.params g v n) (h2 : DecAt w.params g u k) : Pu prog w p loose mean mg mb 20 (.ref 110) [v, u] g (OInt (sgn (n - k))) := by
  have hv := h1
  refine DecG.rawC hv ?_
  intro a1 d1 t1 t2 t3 t4 e9r11 hx1 hd1
  subst e9r11
  have hu := h2
  refine DecG.rawC hu ?_
  intro a2 d2 u1 u2 u3 u4 e9r12 hx2 hd2
  subst e9r12
  intro dp un gd cn cs a ccd cl outer A₀ base h₀ L m gens drawn toks os Q E B F X T hk hd hu hret
  refine wpAny_call ?_
  k_dflt (refine' enterP (binds := [(Str.ofString "self", .ref a1), (Str.ofString "other", .ref a2)]) ?k1 ?k2 ?k3 ?k5 ?kA ?kF ?kK ?k6 ?k7 ?k8 ?k9 ?kB ?_ ?c2 ?c3 ?c4 ?c5)
  walk_at "QZ enter1"
  intro L' h' F' B' X' T'
  have N' := News.nil (h₀ := g) (h := h') (L := L')
  dsimp only at F' B' X' T'
  clear B F X T
  show wpAny _ _ _ _ _ _
  k_fold
  k_steps
  all_goals (exact hret _ _ _ _ (by walk_at "QZ ext") (by walk_at "QZ new") (OInt.mk _))

set_option maxHeartbeats 8000000 in
theorem c_Dtold {v : Value} {n : Int} (h1 : DecAt w.params g v n) : Pu prog w p loose mean mg mb 6 (.ref 138) [v] g (OTup2 n 0) := by
  have hv := h1
  refine DecG.rawC hv ?_
  intro a1 d1 t1 t2 t3 t4 e9r13 hx1 hd1
  subst e9r13
  intro dp un gd cn cs a ccd cl outer A₀ base h₀ L m gens drawn toks os Q E B F X T hk hd hu hret
  refine wpAny_call ?_
  k_dflt (refine' enterP (binds := [(Str.ofString "self", .ref a1)]) ?k1 ?k2 ?k3 ?k5 ?kA ?kF ?kK ?k6 ?k7 ?k8 ?k9 ?kB ?_ ?c2 ?c3 ?c4 ?c5)
  walk_at "QZ enter1"
  intro L' h' F' B' X' T'
  have N' := News.nil (h₀ := g) (h := h') (L := L')
  dsimp only at F' B' X' T'
  clear B F X T
  show wpAny _ _ _ _ _ _
  k_fold
  k_steps
  all_goals (exact hret _ _ _ _ (by walk_at "QZ ext") (by walk_at "QZ new") (OTup2.mk _ _ _))
end
end


-- QzF5
local macro_rules | `(tactic| walk_at "QZ enterC1") => `(tactic| ((case kA => exact rfl); (case kF => exact rfl); (case kK => assumption); (case k1 => k_asm); (case k2 => k_asm); (case k3 => k_asm); (case k5 => k_asm); (case k6 => k_is); (case k7 => k_is); (case k8 => first | exact room0 (by assumption) | ktr_room); (case k9 => exact BindsTo.of_eq rfl); (case kB => exact rfl); (case kD => decide +kernel); (case c2 => exact rfl); (case c3 => exact rfl); (case c4 => exact rfl)))
local macro_rules | `(tactic| walk_at "call ref") => `(tactic| (k_here; (with_reducible show wpAny _ _ (call (Value.ref 110) _) _ _ _); k_dflt (refine' usePuI (c_compared ?d0 ?d1) ?q1 ?q2 ?q3 ?q4 ?q5 ?q6 ?q7 ?q8 ?_; (case d0 => walk_at "QZ dec"); (case d1 => walk_at "QZ dec"); walk_at "QZ use"); intro t9 h9 tk9 F9 N9; (try k_sweep); (try k_fold)))
section
theorem nm_skip5 {x y : Str} {u v : Value} {r : Option Value} (h : x ≠ y) (e : r = some v) : (if x = y then some u else r) = some v := by rw [if_neg h]; exact e
inductive Stop5 (P : Prop) : Prop
  | go (h : P) : Stop5 P
theorem stop5 {P : Prop} (h : Stop5 P) : P := h.rec id
theorem sgn_le {a b : Int} (h : 0 < sgn (a - b)) : min a b = b := by
  unfold sgn at h; repeat' split at h
  all_goals omega
theorem sgn_le' {a b : Int} (h : ¬ 0 < sgn (a - b)) : min a b = a := by
  unfold sgn at h; repeat' split at h
  all_goals omega
theorem sgn_ge {a b : Int} (h : sgn (a - b) < 0) : max a b = b := by
  unfold sgn at h; repeat' split at h
  all_goals omega
theorem sgn_ge' {a b : Int} (h : ¬ sgn (a - b) < 0) : max a b = a := by
  unfold sgn at h; repeat' split at h
  all_goals omega
/-- the best of the first turns -/
def bestOf (op : Int → Int → Int) (a : Int) : List Int → Nat → Int
  | n :: r, i + 1 => bestOf op (op a n) r i
  | _, _ => a
theorem bestOf_nil {op : Int → Int → Int} {a : Int} {i : Nat} : bestOf op a [] i = a := rfl
theorem bestOf_succ {op : Int → Int → Int} : ∀ {ns : List Int} {a n : Int} {i : Nat}, ns[i]? = some n → bestOf op a ns (i + 1) = op (bestOf op a ns i) n
  | m :: r, a, n, 0, h => by cases h; cases r <;> rfl
  | m :: r, a, n, i + 1, h => bestOf_succ (ns := r) (a := op a m) h
theorem method_cmp {prog : Program} {w : World} {A : Around} {E : Value → Shared → Prop} {s : Shared} {h₀ : Heap} {L : Addr} {m : Str → Option Value} {v : Value} {n : Int} {pl : Sem Bool} {Q : Value × List Value → Shared → Prop} (F : Fr h₀ L s.heap m) (X₀ : (hd.heap_39 w.params).In h₀) (D : DecAt w.params s.heap v n)
    (h : Q (.ref 110, [v]) s) : wpAny (model prog w) A (getMethod v (Str.ofString "compared") pl) Q E s := by
  refine ex6 (D.raw) ?_
  intro a d t1 t2 t3 t4 zz9
  refine and3 zz9 ?_
  try clear zz9
  intro e9r14 h1 h2
  subst e9r14
  k_dflt (refine' method_inst F X₀ (W.InstAt.mk h1 rfl rfl h2) ?k4 ?k5 ?k6 ?k7 h; (case k4 => k_is); (case k5 => k_is); (case k6 => k_is); (case k7 => k_get))
theorem DecG.cast {P : Params} {G : Addr → Obj → Prop} {v : Value} {x y : Int} (e : x = y) (D : DecG P G v x) : DecG P G v y := e ▸ D
/-- what holds between the turns -/
def BestJ (P : Params) (G : Addr → Obj → Prop) (f : Nat → Int) (i : Nat) (m : Str → Option Value) (nw : List (Addr × Obj)) : Prop := ∃ b, m (Str.ofString "best") = some b ∧ DecG P G b (f i) ∧ nw = []
theorem BestJ.mk {P : Params} {G : Addr → Obj → Prop} {f : Nat → Int} {i tk : Nat} {m : Str → Option Value} {b : Value} {h₀ h' : Heap} {L : Addr} {wr : List Addr} {own : List (Addr × Obj)} {s₁ : Shared} {Qr : Value → Shared → Prop} {Qb : Shared → Prop} (F : Fr h₀ L h' m) (N : News h₀ L h' (own ++ []))
    (h1 : m (Str.ofString "best") = some b) (h2 : DecG P G b (f i)) : LoopStepV h₀ L wr own (BestJ P G f i) s₁ Qr Qb .next { s₁ with heap := h', toks := tk } := LoopStepU.intro F N (fun _ hp => nomatch hp) ⟨b, h1, h2, rfl⟩
/-- the same decimals -/
def Decs (P : Params) (G : Addr → Obj → Prop) (vs : List Value) (ns : List Int) : Prop := ∀ (i : Nat) v, vs[i]? = some v → ∃ n, ns[i]? = some n ∧ DecG P G v n
theorem Decs.nil {P : Params} {G : Addr → Obj → Prop} : Decs P G [] [] := fun _ _ h => nomatch h
theorem Decs.cons {P : Params} {G : Addr → Obj → Prop} {v : Value} {n : Int} {vs : List Value} {ns : List Int} (h : DecG P G v n) (t : Decs P G vs ns) : Decs P G (v :: vs) (n :: ns)
  | 0, _, e => by cases e; exact ⟨n, rfl, h⟩
  | i + 1, _, e => t i _ e

section
variable {prog : Program} {w : World} {p : Program} {loose : List Str} {mean : ExcName → Option Value} {mg mb : Str → Option Value} {g : Heap}
local macro_rules | `(tactic| walk_at "getMethod") => `(tactic| (k_here; refine stop5 ?_))
local macro_rules | `(tactic| walk_at "QZ nm") => `(tactic| first | exact rfl | (repeat (first | assumption | refine nm_skip5 (by decide) ?_)))
local macro_rules | `(tactic| walk_at "eval Name") => `(tactic| (k_here; k_dflt (refine' ld ?k1 ?k2 ?_; (case k1 => k_asm); (case k2 => walk_at "QZ nm"); k_whole)))
local macro_rules | `(tactic| walk_at "pyIter ref") => `(tactic| (k_here; refine stop5 ?_))
local macro_rules | `(tactic| walk_at "LoopStepV") => `(tactic| (k_here; refine stop5 ?_))

set_option maxHeartbeats 8000000 in
theorem c_least2 {l : Addr} {G : Addr → Obj → Prop} (hG : ∀ a o, G a o → g.get? a = some o) {v1 : Value} {n1 : Int} (h1 : DecG w.params G v1 n1) {v2 : Value} {n2 : Int} (h2 : DecG w.params G v2 n2) (hl : g.IsList l #[v1, v2]) : Pu prog w p loose mean mg mb 30 (.ref 194) [.ref l] g (OOld w.params G (min n1 n2)) := by
  have hD : Decs w.params G [v2] [n2] := (.cons h2 .nil)
  have k1 : DecAt w.params g v1 n1 := DecG.mono h1 hG
  intro dp un gd cn cs a ccd cl outer A₀ base h₀ L m gens drawn toks os Q E B F X T hk hd hu hret
  refine wpAny_call ?_
  k_dflt (refine' enterP (binds := [(Str.ofString "values", .ref l)]) ?k1 ?k2 ?k3 ?k5 ?kA ?kF ?kK ?k6 ?k7 ?k8 ?k9 ?kB ?_ ?c2 ?c3 ?c4 ?c5)
  walk_at "QZ enter1"
  intro L' h' F' B' X' T'
  have N' := News.nil (h₀ := g) (h := h') (L := L')
  dsimp only at F' B' X' T'
  clear B F X T
  show wpAny _ _ _ _ _ _
  k_fold
  k_steps
  refine .go ?_
  rename Fr _ _ _ _ => F0
  rename News _ _ _ _ => N0
  refine iter_inv (BestJ w.params G (bestOf min n1 [n2])) rfl F0 (News.nil) (N0.isList (.head _)) (L_ne F0 (N0.isList (.head _))) ?j0 ?step ?fin
  case j0 => exact ⟨_, rfl, h1, rfl⟩
  case step =>
    intro I i v m₁ nw h₁ tk₁ own hv hJ hown hI hnwI _ F₁ N₁
    refine ex1 hJ ?_
    try clear hJ
    intro b zz9
    refine and3 zz9 ?_
    try clear zz9
    intro hb Db e9r15
    subst e9r15
    refine ex1 (hD i v (by simpa using hv)) ?_
    intro n zz9
    refine and2 zz9 ?_
    try clear zz9
    intro hn Dv
    have hf := bestOf_succ (op := min) (a := n1) hn
    have Db' : DecAt w.params g b _ := Db.mono hG
    have Dv' : DecAt w.params g v _ := Dv.mono hG
    k_steps
    refine .go ?_
    rename Fr _ _ _ _ => F2
    refine method_cmp F2 (by k_asm) (DecAt.base F2 Db') ?_
    k_steps
    · refine .go ?_
      rename 0 < _ => hc
      rename Fr _ _ _ _ => F3
      rename News _ _ _ _ => N3
      exact BestJ.mk F3 N3 rfl (DecG.cast (hf.trans (sgn_le hc)).symm Dv)
    · refine .go ?_
      rename ¬ _ < _ => hc
      rename Fr _ _ _ _ => F3
      rename News _ _ _ _ => N3
      exact BestJ.mk F3 N3 (nm_skip5 (by decide) hb) (DecG.cast (hf.trans (sgn_le' hc)).symm Db)
  case fin =>
    intro h' tk m' nw F' N' hJ
    refine ex1 hJ ?_
    try clear hJ
    intro b zz9
    refine and3 zz9 ?_
    try clear zz9
    intro hb Db e9r16
    subst e9r16
    k_steps
    exact hret _ _ _ _ (by walk_at "QZ ext") newIn_nil (OOld.mk _ Db)

set_option maxHeartbeats 8000000 in
theorem c_least4 {l : Addr} {G : Addr → Obj → Prop} (hG : ∀ a o, G a o → g.get? a = some o) {v1 : Value} {n1 : Int} (h1 : DecG w.params G v1 n1) {v2 : Value} {n2 : Int} (h2 : DecG w.params G v2 n2) {v3 : Value} {n3 : Int} (h3 : DecG w.params G v3 n3) {v4 : Value} {n4 : Int} (h4 : DecG w.params G v4 n4) (hl : g.IsList l #[v1, v2, v3, v4]) : Pu prog w p loose mean mg mb 30 (.ref 194) [.ref l] g (OOld w.params G (min (min (min n1 n2) n3) n4)) := by
  have hD : Decs w.params G [v2, v3, v4] [n2, n3, n4] := (.cons h2 (.cons h3 (.cons h4 .nil)))
  have k1 : DecAt w.params g v1 n1 := DecG.mono h1 hG
  intro dp un gd cn cs a ccd cl outer A₀ base h₀ L m gens drawn toks os Q E B F X T hk hd hu hret
  refine wpAny_call ?_
  k_dflt (refine' enterP (binds := [(Str.ofString "values", .ref l)]) ?k1 ?k2 ?k3 ?k5 ?kA ?kF ?kK ?k6 ?k7 ?k8 ?k9 ?kB ?_ ?c2 ?c3 ?c4 ?c5)
  walk_at "QZ enter1"
  intro L' h' F' B' X' T'
  have N' := News.nil (h₀ := g) (h := h') (L := L')
  dsimp only at F' B' X' T'
  clear B F X T
  show wpAny _ _ _ _ _ _
  k_fold
  k_steps
  refine .go ?_
  rename Fr _ _ _ _ => F0
  rename News _ _ _ _ => N0
  refine iter_inv (BestJ w.params G (bestOf min n1 [n2, n3, n4])) rfl F0 (News.nil) (N0.isList (.head _)) (L_ne F0 (N0.isList (.head _))) ?j0 ?step ?fin
  case j0 => exact ⟨_, rfl, h1, rfl⟩
  case step =>
    intro I i v m₁ nw h₁ tk₁ own hv hJ hown hI hnwI _ F₁ N₁
    refine ex1 hJ ?_
    try clear hJ
    intro b zz9
    refine and3 zz9 ?_
    try clear zz9
    intro hb Db e9r17
    subst e9r17
    refine ex1 (hD i v (by simpa using hv)) ?_
    intro n zz9
    refine and2 zz9 ?_
    try clear zz9
    intro hn Dv
    have hf := bestOf_succ (op := min) (a := n1) hn
    have Db' : DecAt w.params g b _ := Db.mono hG
    have Dv' : DecAt w.params g v _ := Dv.mono hG
    k_steps
    refine .go ?_
    rename Fr _ _ _ _ => F2
    refine method_cmp F2 (by k_asm) (DecAt.base F2 Db') ?_
    k_steps
    · refine .go ?_
      rename 0 < _ => hc
      rename Fr _ _ _ _ => F3
      rename News _ _ _ _ => N3
      exact BestJ.mk F3 N3 rfl (DecG.cast (hf.trans (sgn_le hc)).symm Dv)
    · refine .go ?_
      rename ¬ _ < _ => hc
      rename Fr _ _ _ _ => F3
      rename News _ _ _ _ => N3
      exact BestJ.mk F3 N3 (nm_skip5 (by decide) hb) (DecG.cast (hf.trans (sgn_le' hc)).symm Db)
  case fin =>
    intro h' tk m' nw F' N' hJ
    refine ex1 hJ ?_
    try clear hJ
    intro b zz9
    refine and3 zz9 ?_
    try clear zz9
    intro hb Db e9r18
    subst e9r18
    k_steps
    exact hret _ _ _ _ (by walk_at "QZ ext") newIn_nil (OOld.mk _ Db)

set_option maxHeartbeats 8000000 in
theorem c_greatest2 {l : Addr} {G : Addr → Obj → Prop} (hG : ∀ a o, G a o → g.get? a = some o) {v1 : Value} {n1 : Int} (h1 : DecG w.params G v1 n1) {v2 : Value} {n2 : Int} (h2 : DecG w.params G v2 n2) (hl : g.IsList l #[v1, v2]) : Pu prog w p loose mean mg mb 30 (.ref 201) [.ref l] g (OOld w.params G (max n1 n2)) := by
  have hD : Decs w.params G [v2] [n2] := (.cons h2 .nil)
  have k1 : DecAt w.params g v1 n1 := DecG.mono h1 hG
  intro dp un gd cn cs a ccd cl outer A₀ base h₀ L m gens drawn toks os Q E B F X T hk hd hu hret
  refine wpAny_call ?_
  k_dflt (refine' enterP (binds := [(Str.ofString "values", .ref l)]) ?k1 ?k2 ?k3 ?k5 ?kA ?kF ?kK ?k6 ?k7 ?k8 ?k9 ?kB ?_ ?c2 ?c3 ?c4 ?c5)
  walk_at "QZ enter1"
  intro L' h' F' B' X' T'
  have N' := News.nil (h₀ := g) (h := h') (L := L')
  dsimp only at F' B' X' T'
  clear B F X T
  show wpAny _ _ _ _ _ _
  k_fold
  k_steps
  refine .go ?_
  rename Fr _ _ _ _ => F0
  rename News _ _ _ _ => N0
  refine iter_inv (BestJ w.params G (bestOf max n1 [n2])) rfl F0 (News.nil) (N0.isList (.head _)) (L_ne F0 (N0.isList (.head _))) ?j0 ?step ?fin
  case j0 => exact ⟨_, rfl, h1, rfl⟩
  case step =>
    intro I i v m₁ nw h₁ tk₁ own hv hJ hown hI hnwI _ F₁ N₁
    refine ex1 hJ ?_
    try clear hJ
    intro b zz9
    refine and3 zz9 ?_
    try clear zz9
    intro hb Db e9r19
    subst e9r19
    refine ex1 (hD i v (by simpa using hv)) ?_
    intro n zz9
    refine and2 zz9 ?_
    try clear zz9
    intro hn Dv
    have hf := bestOf_succ (op := max) (a := n1) hn
    have Db' : DecAt w.params g b _ := Db.mono hG
    have Dv' : DecAt w.params g v _ := Dv.mono hG
    k_steps
    refine .go ?_
    rename Fr _ _ _ _ => F2
    refine method_cmp F2 (by k_asm) (DecAt.base F2 Db') ?_
    k_steps
    · refine .go ?_
      rename 0 > _ => hc
      rename Fr _ _ _ _ => F3
      rename News _ _ _ _ => N3
      exact BestJ.mk F3 N3 rfl (DecG.cast (hf.trans (sgn_ge hc)).symm Dv)
    · refine .go ?_
      rename ¬ _ > _ => hc
      rename Fr _ _ _ _ => F3
      rename News _ _ _ _ => N3
      exact BestJ.mk F3 N3 (nm_skip5 (by decide) hb) (DecG.cast (hf.trans (sgn_ge' hc)).symm Db)
  case fin =>
    intro h' tk m' nw F' N' hJ
    refine ex1 hJ ?_
    try clear hJ
    intro b zz9
    refine and3 zz9 ?_
    try clear zz9
    intro hb Db e9r20
    subst e9r20
    k_steps
    exact hret _ _ _ _ (by walk_at "QZ ext") newIn_nil (OOld.mk _ Db)

set_option maxHeartbeats 8000000 in
theorem c_greatest4 {l : Addr} {G : Addr → Obj → Prop} (hG : ∀ a o, G a o → g.get? a = some o) {v1 : Value} {n1 : Int} (h1 : DecG w.params G v1 n1) {v2 : Value} {n2 : Int} (h2 : DecG w.params G v2 n2) {v3 : Value} {n3 : Int} (h3 : DecG w.params G v3 n3) {v4 : Value} {n4 : Int} (h4 : DecG w.params G v4 n4) (hl : g.IsList l #[v1, v2, v3, v4]) : Pu prog w p loose mean mg mb 30 (.ref 201) [.ref l] g (OOld w.params G (max (max (max n1 n2) n3) n4)) := by
  have hD : Decs w.params G [v2, v3, v4] [n2, n3, n4] := (.cons h2 (.cons h3 (.cons h4 .nil)))
  have k1 : DecAt w.params g v1 n1 := DecG.mono h1 hG
  intro dp un gd cn cs a ccd cl outer A₀ base h₀ L m gens drawn toks os Q E B F X T hk hd hu hret
  refine wpAny_call ?_
  k_dflt (refine' enterP (binds := [(Str.ofString "values", .ref l)]) ?k1 ?k2 ?k3 ?k5 ?kA ?kF ?kK ?k6 ?k7 ?k8 ?k9 ?kB ?_ ?c2 ?c3 ?c4 ?c5)
  walk_at "QZ enter1"
  intro L' h' F' B' X' T'
  have N' := News.nil (h₀ := g) (h := h') (L := L')
  dsimp only at F' B' X' T'
  clear B F X T
  show wpAny _ _ _ _ _ _
  k_fold
  k_steps
  refine .go ?_
  rename Fr _ _ _ _ => F0
  rename News _ _ _ _ => N0
  refine iter_inv (BestJ w.params G (bestOf max n1 [n2, n3, n4])) rfl F0 (News.nil) (N0.isList (.head _)) (L_ne F0 (N0.isList (.head _))) ?j0 ?step ?fin
  case j0 => exact ⟨_, rfl, h1, rfl⟩
  case step =>
    intro I i v m₁ nw h₁ tk₁ own hv hJ hown hI hnwI _ F₁ N₁
    refine ex1 hJ ?_
    try clear hJ
    intro b zz9
    refine and3 zz9 ?_
    try clear zz9
    intro hb Db e9r21
    subst e9r21
    refine ex1 (hD i v (by simpa using hv)) ?_
    intro n zz9
    refine and2 zz9 ?_
    try clear zz9
    intro hn Dv
    have hf := bestOf_succ (op := max) (a := n1) hn
    have Db' : DecAt w.params g b _ := Db.mono hG
    have Dv' : DecAt w.params g v _ := Dv.mono hG
    k_steps
    refine .go ?_
    rename Fr _ _ _ _ => F2
    refine method_cmp F2 (by k_asm) (DecAt.base F2 Db') ?_
    k_steps
    · refine .go ?_
      rename 0 > _ => hc
      rename Fr _ _ _ _ => F3
      rename News _ _ _ _ => N3
      exact BestJ.mk F3 N3 rfl (DecG.cast (hf.trans (sgn_ge hc)).symm Dv)
    · refine .go ?_
      rename ¬ _ > _ => hc
      rename Fr _ _ _ _ => F3
      rename News _ _ _ _ => N3
      exact BestJ.mk F3 N3 (nm_skip5 (by decide) hb) (DecG.cast (hf.trans (sgn_ge' hc)).symm Db)
  case fin =>
    intro h' tk m' nw F' N' hJ
    refine ex1 hJ ?_
    try clear hJ
    intro b zz9
    refine and3 zz9 ?_
    try clear zz9
    intro hb Db e9r22
    subst e9r22
    k_steps
    exact hret _ _ _ _ (by walk_at "QZ ext") newIn_nil (OOld.mk _ Db)
end
end


-- QzF6
local macro_rules | `(tactic| walk_at "call ref") => `(tactic| (k_here; (with_reducible show wpAny _ _ (call (Value.ref 180) [Value.ref _]) _ _ _); k_dflt (refine' usePuV (c_decimal_of_dec ?d0) ?q1 ?q2 ?q3 ?q4 ?q5 ?q6 ?q7 ?q8 ?_; (case d0 => walk_at "QZ dec"); walk_at "QZ use"); intro h9 tk9 F9 N9; (try k_sweep); (try k_fold)))
section
section
variable {prog : Program} {w : World} {p : Program} {loose : List Str} {mean : ExcName → Option Value} {mg mb : Str → Option Value} {g : Heap}
local macro_rules | `(tactic| walk_at "call ref") => `(tactic| (k_here; (with_reducible show wpAny _ _ (call (Value.ref 180) [Value.int _ _]) _ _ _); k_dflt (refine' usePuD (c_decimal_of_int _ _) ?q1 ?q2 ?q3 ?q4 ?q5 ?q6 ?q7 ?q8 ?_; walk_at "QZ use"); intro a9 d9 p9 q9 r9 s9 h9 tk9 n9 F9 N9 l9; refine and2 (l9 _ (List.getLast_mem (List.cons_ne_nil _ _))) ?_; clear l9; intro z9 y9; dsimp only [List.getLast] at z9 y9; (try k_sweep); (try k_fold)))

set_option maxHeartbeats 8000000 in
theorem c_MatrixI (na nb nc nd ne nf : Int) (ta tb tc td te tf : Tok) : Pu prog w p loose mean mg mb 12 (.ref 251) [.int na ta, .int nb tb, .int nc tc, .int nd td, .int ne te, .int nf tf] g (fun tl v => MatG w.params (In tl) v na nb nc nd ne nf) := by
  intro dp un gd cn cs a ccd cl outer A₀ base h₀ L m gens drawn toks os Q E B F X T hk hd hu hret
  refine wpAny_call ?_
  k_dflt (refine' mkP (binds := [(Str.ofString "a", .int na ta), (Str.ofString "b", .int nb tb), (Str.ofString "c", .int nc tc), (Str.ofString "d", .int nd td), (Str.ofString "e", .int ne te), (Str.ofString "f", .int nf tf)]) ?k1 ?k2 ?k3 ?k5 ?kA ?kF ?kK ?km ?ki ?kf ?k6 ?k7 ?k8 ?kA2 ?k9 ?kB ?_ ?c2 ?c3 ?c4 ?c5)
  walk_at "QZ mk1"
  intro x d g' L' h' kE kS kx kL F' N' B' X' T'
  replace kx := ltN kx
  clear B F X T
  show wpAny _ _ _ _ _ _
  k_fold
  k_steps
  all_goals (clear B' X' T'; refine ⟨rfl, hret _ _ _ _ (by walk_at "QZ ext") (newIn_of2 (by assumption) (by k_asm) (fun _ h => h)) ?_⟩; (refine' MatG.mem ?g1 ?g2 ?g3 ?g4 ?g5 ?g6 ?g7 ?g8; (case g1 => k_mem); (case g2 => k_mem); (all_goals (refine' DecG.mem ?m1 ?m2; (case m1 => k_mem); (case m2 => k_mem)))))
end
end


-- QzF7
local macro_rules | `(tactic| walk_at "call ref") => `(tactic| (k_here; (with_reducible show wpAny _ _ (call (Value.ref 96) _) _ _ _); k_dflt (refine' usePuD (c_times ?d0 ?d1 ?mu) ?q1 ?q2 ?q3 ?q4 ?q5 ?q6 ?q7 ?q8 ?_; (case d0 => walk_at "QZ dec"); (case d1 => walk_at "QZ dec"); (case mu => exact imo (by assumption)); walk_at "QZ use"); intro a9 d9 p9 q9 r9 s9 h9 tk9 n9 F9 N9 l9; clear l9; (try k_sweep); (try k_fold)))
local macro_rules | `(tactic| walk_at "call ref") => `(tactic| (k_here; (with_reducible show wpAny _ _ (call (Value.ref 82) _) _ _ _); k_dflt (refine' usePuD (c_plus ?d0 ?d1) ?q1 ?q2 ?q3 ?q4 ?q5 ?q6 ?q7 ?q8 ?_; (case d0 => walk_at "QZ dec"); (case d1 => walk_at "QZ dec"); walk_at "QZ use"); intro a9 d9 p9 q9 r9 s9 h9 tk9 n9 F9 N9 l9; clear l9; (try k_sweep); (try k_fold)))
section
section
variable {prog : Program} {w : World} {p : Program} {loose : List Str} {mean : ExcName → Option Value} {mg mb : Str → Option Value} {g : Heap}

set_option maxHeartbeats 8000000 in
theorem c_MatrixD {v1 v2 v3 v4 v5 v6 : Value} {n1 n2 n3 n4 n5 n6 : Int} (h1 : DecAt w.params g v1 n1) (h2 : DecAt w.params g v2 n2) (h3 : DecAt w.params g v3 n3) (h4 : DecAt w.params g v4 n4) (h5 : DecAt w.params g v5 n5) (h6 : DecAt w.params g v6 n6) : Pu prog w p loose mean mg mb 12 (.ref 251) [v1, v2, v3, v4, v5, v6] g (OMatD w.params v1 v2 v3 v4 v5 v6) := by
  refine DecG.rawC h1 ?_
  intro a1 d1 p1 q1 r1 s1 e1 x1 y1
  subst e1
  refine DecG.rawC h2 ?_
  intro a2 d2 p2 q2 r2 s2 e2 x2 y2
  subst e2
  refine DecG.rawC h3 ?_
  intro a3 d3 p3 q3 r3 s3 e3 x3 y3
  subst e3
  refine DecG.rawC h4 ?_
  intro a4 d4 p4 q4 r4 s4 e4 x4 y4
  subst e4
  refine DecG.rawC h5 ?_
  intro a5 d5 p5 q5 r5 s5 e5 x5 y5
  subst e5
  refine DecG.rawC h6 ?_
  intro a6 d6 p6 q6 r6 s6 e6 x6 y6
  subst e6
  intro dp un gd cn cs a ccd cl outer A₀ base h₀ L m gens drawn toks os Q E B F X T hk hd hu hret
  refine wpAny_call ?_
  k_dflt (refine' mkP (binds := [(Str.ofString "a", .ref a1), (Str.ofString "b", .ref a2), (Str.ofString "c", .ref a3), (Str.ofString "d", .ref a4), (Str.ofString "e", .ref a5), (Str.ofString "f", .ref a6)]) ?k1 ?k2 ?k3 ?k5 ?kA ?kF ?kK ?km ?ki ?kf ?k6 ?k7 ?k8 ?kA2 ?k9 ?kB ?_ ?c2 ?c3 ?c4 ?c5)
  walk_at "QZ mk1"
  intro x d g' L' h' kE kS kx kL F' N' B' X' T'
  replace kx := ltN kx
  replace h1 := DecAt.ext h1 kE
  replace h2 := DecAt.ext h2 kE
  replace h3 := DecAt.ext h3 kE
  replace h4 := DecAt.ext h4 kE
  replace h5 := DecAt.ext h5 kE
  replace h6 := DecAt.ext h6 kE
  clear B F X T
  show wpAny _ _ _ _ _ _
  k_fold
  k_steps
  all_goals (clear B' X' T'; exact ⟨rfl, hret _ _ _ _ (by walk_at "QZ ext") (by walk_at "QZ new") (OMatD.mk _ _ _ _ _ _ _ _)⟩)

set_option maxHeartbeats 8000000 in
theorem c_applied {v u1 u2 : Value} {na nb nc nd ne nf X Y : Int} (hM : MatG w.params (At g) v na nb nc nd ne nf) (h1 : DecAt w.params g u1 X) (h2 : DecAt w.params g u2 Y) (s1 : Sm X) (s2 : Sm Y) : Pu prog w p loose mean mg mb 30 (.ref 229) [v, u1, u2] g (OPair w.params (na * X + nc * Y + ne) (nb * X + nd * Y + nf)) := by
  refine MatG.el (hM) ?_
  try clear hM
  intro xM dxM vM1 vM2 vM3 vM4 vM5 vM6 tM1 tM2 tM3 tM4 tM5 tM6 eM gxM gdM gM1 gM2 gM3 gM4 gM5 gM6
  subst eM
  replace gxM := At.raw gxM
  replace gdM := At.raw gdM
  refine DecG.rawC gM1 ?_
  intro aM1 dM1 pM1 qM1 rM1 sM1 eM1 xM1 yM1
  subst eM1
  refine DecG.rawC gM2 ?_
  intro aM2 dM2 pM2 qM2 rM2 sM2 eM2 xM2 yM2
  subst eM2
  refine DecG.rawC gM3 ?_
  intro aM3 dM3 pM3 qM3 rM3 sM3 eM3 xM3 yM3
  subst eM3
  refine DecG.rawC gM4 ?_
  intro aM4 dM4 pM4 qM4 rM4 sM4 eM4 xM4 yM4
  subst eM4
  refine DecG.rawC gM5 ?_
  intro aM5 dM5 pM5 qM5 rM5 sM5 eM5 xM5 yM5
  subst eM5
  refine DecG.rawC gM6 ?_
  intro aM6 dM6 pM6 qM6 rM6 sM6 eM6 xM6 yM6
  subst eM6
  refine DecG.rawC h1 ?_
  intro a1 d1 p1 q1 r1 s1 e1 x1 y1
  subst e1
  refine DecG.rawC h2 ?_
  intro a2 d2 p2 q2 r2 s2 e2 x2 y2
  subst e2
  intro dp un gd cn cs a ccd cl outer A₀ base h₀ L m gens drawn toks os Q E B F X T hk hd hu hret
  refine wpAny_call ?_
  k_dflt (refine' enterP (binds := [(Str.ofString "self", .ref xM), (Str.ofString "x", .ref a1), (Str.ofString "y", .ref a2)]) ?k1 ?k2 ?k3 ?k5 ?kA ?kF ?kK ?k6 ?k7 ?k8 ?k9 ?kB ?_ ?c2 ?c3 ?c4 ?c5)
  walk_at "QZ enter1"
  intro L' h' F' B' X' T'
  have N' := News.nil (h₀ := g) (h := h') (L := L')
  dsimp only at F' B' X' T'
  clear B F X T
  show wpAny _ _ _ _ _ _
  k_fold
  k_steps
  all_goals (clear B' X' T'; exact hret _ _ _ _ (by walk_at "QZ ext") (by walk_at "QZ new") (OPair.mk _ _ _ _ _ _ _ _ _ _ _ _ _))
end
end


-- QzF8
local macro_rules | `(tactic| walk_at "QZ f0") => `(tactic| (intro v9 h9 tk9 tl9 o9 F9 N9 l9; cases o9; clear l9; (try simp only [List.nil_append, List.cons_append] at N9); (try k_sweep); (try k_fold)))
local macro_rules | `(tactic| walk_at "QZ f1") => `(tactic| (intro v9 h9 tk9 tl9 o9 F9 N9 l9; clear l9; (try simp only [List.nil_append, List.cons_append] at N9); (try k_sweep); (try clear v9); (try k_fold)))
section
section
variable {prog : Program} {w : World} {p : Program} {loose : List Str} {mean : ExcName → Option Value} {mg mb : Str → Option Value} {g : Heap}
local macro_rules | `(tactic| walk_at "call ref") => `(tactic| (k_here; (with_reducible show wpAny _ _ (call (Value.ref 229) _) _ _ _); k_dflt (refine' usePu (c_applied ?d0 ?d1 ?d2 ?s1 ?s2) ?q1 ?q2 ?q3 ?q4 ?q5 ?q6 ?q7 ?q8 ?_; (case d0 => walk_at "QZ mat"); (case d1 => walk_at "QZ dec"); (case d2 => walk_at "QZ dec"); (case s1 => assumption); (case s2 => assumption); walk_at "QZ use"); walk_at "QZ f0"))
local macro_rules | `(tactic| walk_at "call ref") => `(tactic| (k_here; (with_reducible show wpAny _ _ (call (Value.ref 251) [Value.ref _, _, _, _, _, _]) _ _ _); k_dflt (refine' usePu (c_MatrixD ?d0 ?d1 ?d2 ?d3 ?d4 ?d5) ?q1 ?q2 ?q3 ?q4 ?q5 ?q6 ?q7 ?q8 ?_; (case d0 => walk_at "QZ dec"); (case d1 => walk_at "QZ dec"); (case d2 => walk_at "QZ dec"); (case d3 => walk_at "QZ dec"); (case d4 => walk_at "QZ dec"); (case d5 => walk_at "QZ dec"); walk_at "QZ use"); walk_at "QZ f0"))
local macro_rules | `(tactic| walk_at "call ref") => `(tactic| (k_here; (with_reducible show wpAny _ _ (call (Value.ref 251) [Value.int _ _, _, _, _, _, _]) _ _ _); k_dflt (refine' usePu (c_MatrixI _ _ _ _ _ _ _ _ _ _ _ _) ?q1 ?q2 ?q3 ?q4 ?q5 ?q6 ?q7 ?q8 ?_; walk_at "QZ use"); walk_at "QZ f1"))

set_option maxHeartbeats 8000000 in
theorem c_Mtimes {v u : Value} {na nb nc nd ne nf ka kb kc kd ke kf : Int} (hM : MatG w.params (At g) v na nb nc nd ne nf) (hN : MatG w.params (At g) u ka kb kc kd ke kf) (s1 : Sm ka) (s2 : Sm kb) (s3 : Sm kc) (s4 : Sm kd) (s5 : Sm ne) (s6 : Sm nf) : Pu prog w p loose mean mg mb 50 (.ref 222) [v, u] g (fun tl v => MatG w.params (In tl) v (na * ka + nb * kc) (na * kb + nb * kd) (nc * ka + nd * kc) (nc * kb + nd * kd) (ka * ne + kc * nf + ke) (kb * ne + kd * nf + kf)) := by
  have hM0 := hM
  have hN0 := hN
  refine MatG.el (hM) ?_
  try clear hM
  intro xM dxM vM1 vM2 vM3 vM4 vM5 vM6 tM1 tM2 tM3 tM4 tM5 tM6 eM gxM gdM gM1 gM2 gM3 gM4 gM5 gM6
  subst eM
  replace gxM := At.raw gxM
  replace gdM := At.raw gdM
  refine DecG.rawC gM1 ?_
  intro aM1 dM1 pM1 qM1 rM1 sM1 eM1 xM1 yM1
  subst eM1
  refine DecG.rawC gM2 ?_
  intro aM2 dM2 pM2 qM2 rM2 sM2 eM2 xM2 yM2
  subst eM2
  refine DecG.rawC gM3 ?_
  intro aM3 dM3 pM3 qM3 rM3 sM3 eM3 xM3 yM3
  subst eM3
  refine DecG.rawC gM4 ?_
  intro aM4 dM4 pM4 qM4 rM4 sM4 eM4 xM4 yM4
  subst eM4
  refine DecG.rawC gM5 ?_
  intro aM5 dM5 pM5 qM5 rM5 sM5 eM5 xM5 yM5
  subst eM5
  refine DecG.rawC gM6 ?_
  intro aM6 dM6 pM6 qM6 rM6 sM6 eM6 xM6 yM6
  subst eM6
  refine MatG.el (hN) ?_
  try clear hN
  intro xN dxN vN1 vN2 vN3 vN4 vN5 vN6 tN1 tN2 tN3 tN4 tN5 tN6 eN gxN gdN gN1 gN2 gN3 gN4 gN5 gN6
  subst eN
  replace gxN := At.raw gxN
  replace gdN := At.raw gdN
  refine DecG.rawC gN1 ?_
  intro aN1 dN1 pN1 qN1 rN1 sN1 eN1 xN1 yN1
  subst eN1
  refine DecG.rawC gN2 ?_
  intro aN2 dN2 pN2 qN2 rN2 sN2 eN2 xN2 yN2
  subst eN2
  refine DecG.rawC gN3 ?_
  intro aN3 dN3 pN3 qN3 rN3 sN3 eN3 xN3 yN3
  subst eN3
  refine DecG.rawC gN4 ?_
  intro aN4 dN4 pN4 qN4 rN4 sN4 eN4 xN4 yN4
  subst eN4
  refine DecG.rawC gN5 ?_
  intro aN5 dN5 pN5 qN5 rN5 sN5 eN5 xN5 yN5
  subst eN5
  refine DecG.rawC gN6 ?_
  intro aN6 dN6 pN6 qN6 rN6 sN6 eN6 xN6 yN6
  subst eN6
  intro dp un gd cn cs a ccd cl outer A₀ base h₀ L m gens drawn toks os Q E B F X T hk hd hu hret
  refine wpAny_call ?_
  k_dflt (refine' enterP (binds := [(Str.ofString "self", .ref xM), (Str.ofString "other", .ref xN)]) ?k1 ?k2 ?k3 ?k5 ?kA ?kF ?kK ?k6 ?k7 ?k8 ?k9 ?kB ?_ ?c2 ?c3 ?c4 ?c5)
  walk_at "QZ enter1"
  intro L' h' F' B' X' T'
  have N' := News.nil (h₀ := g) (h := h') (L := L')
  dsimp only at F' B' X' T'
  clear B F X T
  show wpAny _ _ _ _ _ _
  k_fold
  k_steps
  all_goals (clear B' X' T'; refine hret _ _ _ _ (by walk_at "QZ ext") (newIn_of (by k_asm) (fun _ h => h)) ?_; (refine' MatG.mem ?g1 ?g2 ?g3 ?g4 ?g5 ?g6 ?g7 ?g8; (case g1 => k_mem); (case g2 => k_mem); (all_goals (refine' DecG.mem ?m1 ?m2; (case m1 => k_mem); (case m2 => k_mem)))))
end
end


-- QzF9
local macro_rules | `(tactic| walk_at "QZ f2") => `(tactic| (intro v9 h9 tk9 tl9 o9 F9 N9 l9; clear l9; (try simp only [List.nil_append, List.cons_append] at N9); (try k_sweep); (try k_fold)))
local macro_rules | `(tactic| walk_at "call ref") => `(tactic| (k_here; (with_reducible show wpAny _ _ (call (Value.ref 251) [Value.int _ _, _, _, _, _, _]) _ _ _); k_dflt (refine' usePu (c_MatrixI _ _ _ _ _ _ _ _ _ _ _ _) ?q1 ?q2 ?q3 ?q4 ?q5 ?q6 ?q7 ?q8 ?_; walk_at "QZ use"); walk_at "QZ f2"))
section
section
variable {prog : Program} {w : World} {p : Program} {loose : List Str} {mean : ExcName → Option Value} {mg mb : Str → Option Value} {g : Heap}

set_option maxHeartbeats 8000000 in
theorem c_identity  : Pu prog w p loose mean mg mb 24 (.ref 262) [] g (fun tl v => MatG w.params (In tl) v 1 0 0 1 0 0) := by
  intro dp un gd cn cs a ccd cl outer A₀ base h₀ L m gens drawn toks os Q E B F X T hk hd hu hret
  refine wpAny_call ?_
  k_dflt (refine' enterP (binds := []) ?k1 ?k2 ?k3 ?k5 ?kA ?kF ?kK ?k6 ?k7 ?k8 ?k9 ?kB ?_ ?c2 ?c3 ?c4 ?c5)
  walk_at "QZ enter1"
  intro L' h' F' B' X' T'
  have N' := News.nil (h₀ := g) (h := h') (L := L')
  dsimp only at F' B' X' T'
  clear B F X T
  show wpAny _ _ _ _ _ _
  k_fold
  k_steps
  all_goals (clear B' X' T'; exact hret _ _ _ _ (by walk_at "QZ ext") (newIn_of (by k_asm) (fun _ h => List.mem_append.mpr (.inl h))) (by assumption))

set_option maxHeartbeats 8000000 in
theorem c_translation (x y : Int) (tx ty : Tok) : Pu prog w p loose mean mg mb 24 (.ref 269) [.int x tx, .int y ty] g (fun tl v => MatG w.params (In tl) v 1 0 0 1 x y) := by
  intro dp un gd cn cs a ccd cl outer A₀ base h₀ L m gens drawn toks os Q E B F X T hk hd hu hret
  refine wpAny_call ?_
  k_dflt (refine' enterP (binds := [(Str.ofString "x", .int x tx), (Str.ofString "y", .int y ty)]) ?k1 ?k2 ?k3 ?k5 ?kA ?kF ?kK ?k6 ?k7 ?k8 ?k9 ?kB ?_ ?c2 ?c3 ?c4 ?c5)
  walk_at "QZ enter1"
  intro L' h' F' B' X' T'
  have N' := News.nil (h₀ := g) (h := h') (L := L')
  dsimp only at F' B' X' T'
  clear B F X T
  show wpAny _ _ _ _ _ _
  k_fold
  k_steps
  all_goals (clear B' X' T'; exact hret _ _ _ _ (by walk_at "QZ ext") (newIn_of (by k_asm) (fun _ h => List.mem_append.mpr (.inl h))) (by assumption))
local macro_rules | `(tactic| walk_at "call ref") => `(tactic| (k_here; (with_reducible show wpAny _ _ (call (Value.ref 194) _) _ _ _); k_dflt (refine' usePu (c_least4 (G := _) ?hG ?d0 ?d1 ?d2 ?d3 ?hl) ?q1 ?q2 ?q3 ?q4 ?q5 ?q6 ?q7 ?q8 ?_; (case hl => is_list); (case d0 => walk_at "QZ decG"); (case d1 => walk_at "QZ decG"); (case d2 => walk_at "QZ decG"); (case d3 => walk_at "QZ decG"); (case hG => walk_at "QZ hG"); walk_at "QZ use"); walk_at "QZ f0"))
local macro_rules | `(tactic| walk_at "call ref") => `(tactic| (k_here; (with_reducible show wpAny _ _ (call (Value.ref 201) _) _ _ _); k_dflt (refine' usePu (c_greatest4 (G := _) ?hG ?d0 ?d1 ?d2 ?d3 ?hl) ?q1 ?q2 ?q3 ?q4 ?q5 ?q6 ?q7 ?q8 ?_; (case hl => is_list); (case d0 => walk_at "QZ decG"); (case d1 => walk_at "QZ decG"); (case d2 => walk_at "QZ decG"); (case d3 => walk_at "QZ decG"); (case hG => walk_at "QZ hG"); walk_at "QZ use"); walk_at "QZ f0"))

set_option maxHeartbeats 8000000 in
theorem c_box_of {G : Addr → Obj → Prop} (hG : ∀ a o, G a o → g.get? a = some o) {l p1 p2 p3 p4 : Addr} {v1 u1 : Value} {x1 y1 : Int} (h1 : DecG w.params G v1 x1) (k1 : DecG w.params G u1 y1) (T1 : IsTup g p1 #[v1, u1]) {v2 u2 : Value} {x2 y2 : Int} (h2 : DecG w.params G v2 x2) (k2 : DecG w.params G u2 y2) (T2 : IsTup g p2 #[v2, u2]) {v3 u3 : Value} {x3 y3 : Int} (h3 : DecG w.params G v3 x3) (k3 : DecG w.params G u3 y3) (T3 : IsTup g p3 #[v3, u3]) {v4 u4 : Value} {x4 y4 : Int} (h4 : DecG w.params G v4 x4) (k4 : DecG w.params G u4 y4) (T4 : IsTup g p4 #[v4, u4]) (hl : g.IsList l #[.ref p1, .ref p2, .ref p3, .ref p4]) : Pu prog w p loose mean mg mb 40 (.ref 281) [.ref l] g (fun tl v => BoxG w.params (GI G tl) v (min (min (min x1 x2) x3) x4) (min (min (min y1 y2) y3) y4) (max (max (max x1 x2) x3) x4) (max (max (max y1 y2) y3) y4)) := by
  intro dp un gd cn cs a ccd cl outer A₀ base h₀ L m gens drawn toks os Q E B F X T hk hd hu hret
  refine wpAny_call ?_
  k_dflt (refine' enterP (binds := [(Str.ofString "points", .ref l)]) ?k1 ?k2 ?k3 ?k5 ?kA ?kF ?kK ?k6 ?k7 ?k8 ?k9 ?kB ?_ ?c2 ?c3 ?c4 ?c5)
  walk_at "QZ enter1"
  intro L' h' F' B' X' T'
  have N' := News.nil (h₀ := g) (h := h') (L := L')
  dsimp only at F' B' X' T'
  clear B F X T
  show wpAny _ _ _ _ _ _
  k_fold
  k_steps
  all_goals (clear B' X' T'; exact hret _ _ _ _ (by walk_at "QZ ext") (newIn_of (by k_asm) (fun _ h => h)) (BoxG.old (by k_mem) (by assumption) (by assumption) (by assumption) (by assumption)))
end
end


-- QzComp

section
open PyProof.Rows.LCg PyProof.Rows.LCp

inductive Stop9 (P : Prop) : Prop
  | go (h : P) : Stop9 P
theorem stop9 {P : Prop} (h : Stop9 P) : P := h.rec id
/-- the end of a comprehension's element -/
def ElEnd (h₀ : Heap) (L : Addr) (m : Str → Option Value) (s : Shared) (nw : List (Addr × Obj)) (Out : List (Addr × Obj) → Value → Prop) (y : Value) (s' : Shared) : Prop :=
  ∃ h' tk' tl, s' = { s with heap := h', toks := tk' } ∧ Fr h₀ L h' m ∧ News h₀ L h' (tl ++ nw) ∧ (∀ q ∈ tl, ∀ p ∈ nw, p.1 ≠ q.1) ∧ Out tl y
theorem ElEnd.intro {h₀ h' : Heap} {L : Addr} {m : Str → Option Value} {s : Shared} {nw all tl : List (Addr × Obj)} {Out : List (Addr × Obj) → Value → Prop} {y : Value} {tk' : Nat} (F : Fr h₀ L h' m) (N : News h₀ L h' all)
    (out : Out tl y) (hs : ∀ p ∈ tl, p ∈ all) (hn : ∀ p ∈ nw, p ∈ all) (off : ∀ q ∈ tl, ∀ p ∈ nw, p.1 ≠ q.1) : ElEnd h₀ L m s nw Out y { s with heap := h', toks := tk' } :=
  ⟨h', tk', tl, rfl, F, fun p hp => (List.mem_append.mp hp).elim (fun h => N p (hs p h)) fun h => N p (hn p h), off, out⟩

theorem ElEnd.call {h₀ h' : Heap} {L : Addr} {m : Str → Option Value} {s : Shared} {c : Addr × Obj} {news nw tl : List (Addr × Obj)} {Out : List (Addr × Obj) → Value → Prop} {y : Value} {tk' : Nat} (out : Out tl y) (F : Fr h₀ L h' m) (N : News h₀ L h' (tl ++ (c :: (news ++ nw))))
    (off : ∀ q ∈ tl, ∀ p ∈ c :: (news ++ nw), p.1 ≠ q.1) : ElEnd h₀ L m s nw Out y { s with heap := h', toks := tk' } :=
  .intro F N out (fun p hp => List.mem_append.mpr (.inl hp)) (fun p hp => List.mem_append.mpr (.inr (.tail _ (List.mem_append.mpr (.inr hp))))) fun q hq p hp => off q hq p (.tail _ (List.mem_append.mpr (.inr hp)))

def ElU (prog : Program) (w : World) (A : Around) (h₀ : Heap) (L : Addr) (m : Str → Option Value) (env : Env) (elt : Expr) (x : Str) (scope : Scope) (cl : List (Str × Addr)) (s : Shared) (news : List (Addr × Obj)) (v : Value) (Out : List (Addr × Obj) → Value → Prop) : Prop :=
  ∀ (C : Addr) (oC : Obj) (m₂ : Str → Option Value) (h : Heap) (tk : Nat) (nw : List (Addr × Obj)) (E' : Value → Shared → Prop), NsObj oC m₂ → m₂ x = some v → Fr h₀ L h m → News h₀ L h ((C, oC) :: (news ++ nw)) →
    wpAny (model prog w) A (eval elt (compEnvC scope cl C env)) (ElEnd h₀ L m s nw Out) E' { s with heap := h, toks := tk }
def ElP (prog : Program) (w : World) (A : Around) (h₀ : Heap) (L : Addr) (m : Str → Option Value) (env : Env) (elt : Expr) (x x₂ : Str) (scope : Scope) (cl : List (Str × Addr)) (s : Shared) (news : List (Addr × Obj)) (v v₂ : Value) (Out : List (Addr × Obj) → Value → Prop) : Prop :=
  ∀ (C : Addr) (oC : Obj) (m₂ : Str → Option Value) (h : Heap) (tk : Nat) (nw : List (Addr × Obj)) (E' : Value → Shared → Prop), NsObj oC m₂ → m₂ x = some v → m₂ x₂ = some v₂ → Fr h₀ L h m → News h₀ L h ((C, oC) :: (news ++ nw)) →
    wpAny (model prog w) A (eval elt (compEnvC scope cl C env)) (ElEnd h₀ L m s nw Out) E' { s with heap := h, toks := tk }

/-- what is made lies off what stood -/
def OffN (tl news : List (Addr × Obj)) : Prop := ∀ q ∈ tl, ∀ p ∈ news, p.1 ≠ q.1
/-- all turns told -/
def AllOut (Out : Nat → List (Addr × Obj) → Value → Prop) (n : Nat) (ys : List Value) (tl : List (Addr × Obj)) : Prop := ys.length = n ∧ ∀ i y, ys[i]? = some y → ∃ t, (∀ p ∈ t, p ∈ tl) ∧ Out i t y

section
variable {prog : Program} {w : World} {A : Around} {s : Shared} {h₀ : Heap} {L : Addr} {m : Str → Option Value} {env : Env}

theorem all_snoc {Out : Nat → List (Addr × Obj) → Value → Prop} {i : Nat} {ys : List Value} {tl t : List (Addr × Obj)} {y : Value} (h : AllOut Out i ys tl) (o : Out i t y) : AllOut Out (i + 1) (ys ++ [y]) (t ++ tl) := by
  refine and2 h ?_
  try clear h
  intro hl ha
  refine ⟨by rw [List.length_append, List.length_singleton, hl], fun j z hz => ?_⟩
  by_cases hj : j < ys.length
  · rw [List.getElem?_append_left hj] at hz
    refine ex1 (ha j z hz) ?_
    intro t' zz9
    refine and2 zz9 ?_
    try clear zz9
    intro h1 h2
    exact ⟨t', fun p hp => List.mem_append.mpr (.inr (h1 p hp)), h2⟩
  · rw [List.getElem?_append_right (Nat.le_of_not_lt hj)] at hz
    have : j = i := by
      have := (List.getElem?_eq_some_iff.mp hz).1
      simp at this
      omega
    subst this
    rw [hl, Nat.sub_self] at hz
    cases hz
    exact ⟨t, fun p hp => List.mem_append.mpr (.inl hp), o⟩

theorem news3 {h h' : Heap} {I C D : Addr} {oI oC oD : Obj} {tl nw : List (Addr × Obj)} (N : News h₀ L h' (tl ++ ((I, oI) :: (C, oC) :: (D, oD) :: nw))) : News h₀ L h' ((I, oI) :: (C, oC) :: (D, oD) :: (tl ++ nw)) := fun p hp => N p (by
  simp only [List.mem_cons, List.mem_append] at hp ⊢
  rcases hp with h | h | h | h | h <;> simp [h])

theorem rest_U {elt : Expr} {x : Str} {scope : Scope} {cl : List (Str × Addr)} {n : Nat} {S : List (Addr × Obj) → Prop} {P : Nat → Value → Prop} {Fin : List Value → List (Addr × Obj) → Prop} {news : List (Addr × Obj)} {Out : Nat → List (Addr × Obj) → Value → Prop}
    (el : ∀ i v, i < n → P i v → ElU prog w A h₀ L m env elt x scope cl s news v (Out i)) (hS : ∀ nw, (∀ p ∈ news, p ∈ nw) → S nw)
    (fin : ∀ ys tl, AllOut Out n ys tl → OffN tl news → Fin ys (tl ++ news)) : CompRest prog w A h₀ L m env elt x scope cl s S P Fin n 0 [] news := by
  have key : ∀ k i ys tl, i + k = n → AllOut Out i ys tl → OffN tl news → CompRest prog w A h₀ L m env elt x scope cl s S P Fin k i ys (tl ++ news) := by
    intro k
    induction k with
    | zero => intro i ys tl e a on; obtain rfl : i = n := by omega
              exact CompRest.zero (fin ys tl a on)
    | succ k ih =>
      intro i ys tl e a on
      refine CompRest.succ ?_
      intro v I oI C oC D m₂ h tk E' hP hC hx F N off ne
      refine wpAny_mono (el i v (by omega) hP C oC m₂ h tk ((I, oI) :: (C, oC) :: (D, lst ys) :: (tl ++ news)) E' hC hx F (fun p hp => N p ?_)) (fun y s' he => ?_) fun _ _ e => e
      · simp only [List.mem_cons, List.mem_append] at hp ⊢
        rcases hp with h | h | h | h | h | h | h <;> simp [h]
      · refine ex3 he ?_
        try clear he
        intro h' tk' t zz9
        refine and5 zz9 ?_
        try clear zz9
        intro e9r23 F' N' o' out
        subst e9r23
        refine ⟨h', tk', t ++ (tl ++ news), rfl, F', news3 (h := h) N', Off3.of fun p hp => ?_, hS _ fun p hp => List.mem_append.mpr (.inr (List.mem_append.mpr (.inr hp))), ?_⟩
        · rcases List.mem_append.mp hp with hp | hp
          · exact ⟨Ne.symm (o' p hp (I, oI) (.head _)), Ne.symm (o' p hp (C, oC) (.tail _ (.head _))), Ne.symm (o' p hp (D, lst ys) (.tail _ (.tail _ (.head _))))⟩
          · exact off.mem p hp
        · rw [← List.append_assoc]
          exact ih (i + 1) _ _ (by omega) (all_snoc a out) fun q hq p hp => (List.mem_append.mp hq).elim (fun h => o' q h p (.tail _ (.tail _ (.tail _ (List.mem_append.mpr (.inr hp)))))) fun h => on q h p hp
  simpa using key n 0 [] [] (by omega) ⟨rfl, fun i y h => by simp at h⟩ fun _ h => nomatch h

theorem rest_P {elt : Expr} {x x₂ : Str} {scope : Scope} {cl : List (Str × Addr)} {n : Nat} {S : List (Addr × Obj) → Prop} {P : Nat → Value → Prop} {Fin : List Value → List (Addr × Obj) → Prop} {news : List (Addr × Obj)} {Out : Nat → List (Addr × Obj) → Value → Prop}
    (el : ∀ i v, i < n → P i v → ∃ t v₁ v₂ nt, v = .ref t ∧ (t, ({ cls := .type "tuple", data := .seq #[v₁, v₂] nt } : Obj)) ∈ news ∧ ElP prog w A h₀ L m env elt x x₂ scope cl s news v₁ v₂ (Out i)) (hS : ∀ nw, (∀ p ∈ news, p ∈ nw) → S nw)
    (fin : ∀ ys tl, AllOut Out n ys tl → OffN tl news → Fin ys (tl ++ news)) : CompRestP prog w A h₀ L m env elt x x₂ scope cl s S P Fin n 0 [] news := by
  have key : ∀ k i ys tl, i + k = n → AllOut Out i ys tl → OffN tl news → CompRestP prog w A h₀ L m env elt x x₂ scope cl s S P Fin k i ys (tl ++ news) := by
    intro k
    induction k with
    | zero => intro i ys tl e a on; obtain rfl : i = n := by omega
              exact CompRestP.zero (fin ys tl a on)
    | succ k ih =>
      intro i ys tl e a on
      refine CompRestP.succ ?_
      intro v hP
      refine ex4 (el i v (by omega) hP) ?_
      intro t v₁ v₂ nt zz9
      refine and3 zz9 ?_
      try clear zz9
      intro e9r24 hm el
      subst e9r24
      refine ⟨t, _, v₁, v₂, nt, rfl, List.mem_append.mpr (.inr hm), rfl, rfl, ?_⟩
      intro I oI C oC D m₂ h tk E' hC hx hx₂ F N off ne
      refine wpAny_mono (el C oC m₂ h tk ((I, oI) :: (C, oC) :: (D, lst ys) :: (tl ++ news)) E' hC hx hx₂ F (fun p hp => N p ?_)) (fun y s' he => ?_) fun _ _ e => e
      · simp only [List.mem_cons, List.mem_append] at hp ⊢
        rcases hp with h | h | h | h | h | h | h <;> simp [h]
      · refine ex3 he ?_
        try clear he
        intro h' tk' t zz9
        refine and5 zz9 ?_
        try clear zz9
        intro e9r25 F' N' o' out
        subst e9r25
        refine ⟨h', tk', t ++ (tl ++ news), rfl, F', news3 (h := h) N', Off3.of fun p hp => ?_, hS _ fun p hp => List.mem_append.mpr (.inr (List.mem_append.mpr (.inr hp))), ?_⟩
        · rcases List.mem_append.mp hp with hp | hp
          · exact ⟨Ne.symm (o' p hp (I, oI) (.head _)), Ne.symm (o' p hp (C, oC) (.tail _ (.head _))), Ne.symm (o' p hp (D, lst ys) (.tail _ (.tail _ (.head _))))⟩
          · exact off.mem p hp
        · rw [← List.append_assoc]
          exact ih (i + 1) _ _ (by omega) (all_snoc a out) fun q hq p hp => (List.mem_append.mp hq).elim (fun h => o' q h p (.tail _ (.tail _ (.tail _ (List.mem_append.mpr (.inr hp)))))) fun h => on q h p hp
  simpa using key n 0 [] [] (by omega) ⟨rfl, fun i y h => by simp at h⟩ fun _ h => nomatch h

/-- what stands behind a comprehension -/
def AfterE (h₀ : Heap) (L : Addr) (m : Str → Option Value) (s : Shared) (news : List (Addr × Obj)) (Out : Nat → List (Addr × Obj) → Value → Prop) (n : Nat) (Q : Value → Shared → Prop) : Prop :=
  ∀ D h' tk' ys tl, AllOut Out n ys tl → Fr h₀ L h' m → News h₀ L h' ((D, lst ys) :: (tl ++ news)) → ((∀ p ∈ tl ++ news, p.1 ≠ D) ∧ OffN tl news) → Q (.ref D) { s with heap := h', toks := tk' }
def AfterA (h₀ : Heap) (L : Addr) (m : Str → Option Value) (s : Shared) (y : Str) (news : List (Addr × Obj)) (Out : Nat → List (Addr × Obj) → Value → Prop) (n : Nat) (Q : Flow → Shared → Prop) : Prop :=
  ∀ D h' tk' ys tl, AllOut Out n ys tl → Fr h₀ L h' (fun z => if z = y then some (.ref D) else m z) → News h₀ L h' ((D, lst ys) :: (tl ++ news)) → ((∀ p ∈ tl ++ news, p.1 ≠ D) ∧ OffN tl news) → Q .next { s with heap := h', toks := tk' }
theorem off1 {D : Addr} {l : List (Addr × Obj)} (x : Off1 D l) : ∀ p ∈ l, p.1 ≠ D := by
  induction l with
  | nil => exact fun _ h => nomatch h
  | cons q r ih =>
    intro p hp
    rcases List.mem_cons.mp hp with rfl | hp
    · exact x.1
    · exact ih x.2 p hp
theorem AfterE.fin {news : List (Addr × Obj)} {Out : Nat → List (Addr × Obj) → Value → Prop} {n : Nat} {Q : Value → Shared → Prop} (a : AfterE h₀ L m s news Out n Q) : ∀ ys tl, AllOut Out n ys tl → OffN tl news → FinE h₀ L m s Q ys (tl ++ news) :=
  fun ys tl o on D h tk F N off => a D h tk ys tl o F N ⟨off1 off, on⟩
theorem AfterA.fin {y : Str} {news : List (Addr × Obj)} {Out : Nat → List (Addr × Obj) → Value → Prop} {n : Nat} {Q : Flow → Shared → Prop} (a : AfterA h₀ L m s y news Out n Q) : ∀ ys tl, AllOut Out n ys tl → OffN tl news → FinA h₀ L m s y Q ys (tl ++ news) :=
  fun ys tl o on D h tk F N off => a D h tk ys tl o F N ⟨off1 off, on⟩
theorem src_mono {ax : Addr} {its : Array Value} {news : List (Addr × Obj)} (h : SrcAt h₀ ax its news) : ∀ nw, (∀ p ∈ news, p ∈ nw) → SrcAt h₀ ax its nw := fun nw hs => h.imp id fun ⟨o, hm, r⟩ => ⟨o, hs _ hm, r⟩
/-- the source of a comprehension: a list, every item told -/
theorem srcU {elt : Expr} {x : Str} {scope : Scope} {cl : List (Str × Addr)} {Fin : Shared → List Value → List (Addr × Obj) → Prop} {ax : Addr} {its : Array Value} {news : List (Addr × Obj)} {s₁ : Shared} {Out : Nat → List (Addr × Obj) → Value → Prop}
    (hh : A.handled = none) (F : Fr h₀ L s₁.heap m) (N : News h₀ L s₁.heap news) (hl : SrcAt h₀ ax its news) (hsz : its.size ≤ sizeLine)
    (el : ∀ g i v, i < its.size → its[i]? = some v → ElU prog w A h₀ L m env elt x scope cl { s₁ with heap := g } news v (Out i))
    (fin : ∀ g ys tl, AllOut Out its.size ys tl → OffN tl news → Fin { s₁ with heap := g } ys (tl ++ news)) : CompSrc prog w A h₀ L m env elt x scope cl Fin (.ref ax) s₁ :=
  .inl ⟨ax, its, news, rfl, hh, F, N, hl, hsz, fun _ ⟨g, e⟩ => e ▸ rest_U (el g) (src_mono hl) (fin g)⟩
theorem srcP {elt : Expr} {x x₂ : Str} {scope : Scope} {cl : List (Str × Addr)} {Fin : Shared → List Value → List (Addr × Obj) → Prop} {ax : Addr} {its : Array Value} {news : List (Addr × Obj)} {s₁ : Shared} {Out : Nat → List (Addr × Obj) → Value → Prop}
    (hh : A.handled = none) (F : Fr h₀ L s₁.heap m) (N : News h₀ L s₁.heap news) (hl : SrcAt h₀ ax its news) (hsz : its.size ≤ sizeLine)
    (el : ∀ g i v, i < its.size → its[i]? = some v → ∃ t v₁ v₂ nt, v = .ref t ∧ (t, ({ cls := .type "tuple", data := .seq #[v₁, v₂] nt } : Obj)) ∈ news ∧ ElP prog w A h₀ L m env elt x x₂ scope cl { s₁ with heap := g } news v₁ v₂ (Out i))
    (fin : ∀ g ys tl, AllOut Out its.size ys tl → OffN tl news → Fin { s₁ with heap := g } ys (tl ++ news)) : SrcLP prog w A h₀ L m env elt x x₂ scope cl Fin (.ref ax) s₁ :=
  ⟨ax, its, news, rfl, hh, F, N, hl, hsz, fun _ ⟨g, e⟩ => e ▸ rest_P (el g) (src_mono hl) (fin g)⟩
end
theorem el4 {B : Nat → Value → Prop} {v0 v1 v2 v3 : Value} (h0 : B 0 v0) (h1 : B 1 v1) (h2 : B 2 v2) (h3 : B 3 v3) : ∀ i v, i < (#[v0, v1, v2, v3] : Array Value).size → (#[v0, v1, v2, v3] : Array Value)[i]? = some v → B i v := by
  intro i v hi hv
  match i, hi, hv with
  | 0, _, hv => cases hv; exact h0
  | 1, _, hv => cases hv; exact h1
  | 2, _, hv => cases hv; exact h2
  | 3, _, hv => cases hv; exact h3
theorem uncons {α : Type} {ys : List α} {n : Nat} {b : Prop} (hl : ys.length = n + 1) (f : ∀ y r, ys = y :: r → r.length = n → b) : b := by
  cases ys with
  | nil => cases hl
  | cons y r => exact f y r rfl (Nat.succ.inj hl)
theorem all4 {Out : Nat → List (Addr × Obj) → Value → Prop} {ys : List Value} {tl : List (Addr × Obj)} (h : AllOut Out 4 ys tl) :
    ∃ y0 y1 y2 y3, ys = [y0, y1, y2, y3] ∧ (∃ t, (∀ p ∈ t, p ∈ tl) ∧ Out 0 t y0) ∧ (∃ t, (∀ p ∈ t, p ∈ tl) ∧ Out 1 t y1) ∧ (∃ t, (∀ p ∈ t, p ∈ tl) ∧ Out 2 t y2) ∧ ∃ t, (∀ p ∈ t, p ∈ tl) ∧ Out 3 t y3 := by
  refine and2 h ?_
  try clear h
  intro hl ha
  refine uncons hl ?_
  intro y0 r0 e0 h0
  refine uncons h0 ?_
  intro y1 r1 e1 h1
  refine uncons h1 ?_
  intro y2 r2 e2 h2
  refine uncons h2 ?_
  intro y3 r3 e3 h3
  have e : ys = [y0, y1, y2, y3] := by rw [e0, e1, e2, e3, List.eq_nil_of_length_eq_zero h3]
  exact ⟨y0, y1, y2, y3, e, ha 0 _ (by rw [e]; rfl), ha 1 _ (by rw [e]; rfl), ha 2 _ (by rw [e]; rfl), ha 3 _ (by rw [e]; rfl)⟩
theorem pair_kn {P : Params} {X Y : Int} {t tl : List (Addr × Obj)} {y : Value} (o : OPair P X Y t y) (h : ∀ p ∈ t, p ∈ tl) : ∃ q v u, y = .ref q ∧ (q, tupO [v, u]) ∈ tl ∧ DecG P (In tl) v X ∧ DecG P (In tl) u Y := by
  cases o with
  | mk q a1 d1 a2 d2 p1 p2 p3 p4 q1 q2 q3 q4 =>
    exact ⟨q, _, _, rfl, h _ (.head _), DecG.mem (h _ (.tail _ (.head _))) (h _ (.tail _ (.tail _ (.head _)))), DecG.mem (h _ (.tail _ (.tail _ (.tail _ (.head _))))) (h _ (.tail _ (.tail _ (.tail _ (.tail _ (.head _))))))⟩
theorem isTup_base {g h : Heap} {L t : Addr} {m : Str → Option Value} {vs : Array Value} (F : Fr g L h m) (T : IsTup g t vs) : IsTup h t vs := T.keeps F.keep
theorem BoxG.cmono {P : Params} {G H : Addr → Obj → Prop} {v : Value} {a b c d : Int} (k : ∀ a o, G a o → H a o) (D : BoxG P G v a b c d) : BoxG P H v a b c d := D.mono k
end


-- QzF10
local macro_rules | `(tactic| walk_at "QZ f3") => `(tactic| (intro v9 h9 tk9 tl9 o9 F9 N9 l9; (try k_sweep); (try k_fold)))
local macro_rules | `(tactic| walk_at "eval ListComp") => `(tactic| (k_here; refine stop9 ?_))
local macro_rules | `(tactic| walk_at "exec Assign cons ListComp") => `(tactic| (k_here; refine stop9 ?_))
local macro_rules | `(tactic| walk_at "SrcLP") => `(tactic| (k_here; refine stop9 ?_))
local macro_rules | `(tactic| walk_at "CompSrc") => `(tactic| (k_here; refine stop9 ?_))
section
open PyProof.Rows.LCg PyProof.Rows.LCp

section
variable {prog : Program} {w : World} {p : Program} {loose : List Str} {mean : ExcName → Option Value} {mg mb : Str → Option Value} {g : Heap}
end
inductive OCorners (v1 v2 v3 v4 : Value) : List (Addr × Obj) → Value → Prop
  | mk (l p1 p2 p3 p4 : Addr) : OCorners v1 v2 v3 v4 [(l, W.listOf #[.ref p1, .ref p2, .ref p3, .ref p4] 0), (p1, tupO [v1, v2]), (p2, tupO [v3, v2]), (p3, tupO [v3, v4]), (p4, tupO [v1, v4])] (.ref l)
def bxl (a b c d : Int) : Int := min (min (min a b) c) d
def bxh (a b c d : Int) : Int := max (max (max a b) c) d
section
variable {prog : Program} {w : World} {p : Program} {loose : List Str} {mean : ExcName → Option Value} {mg mb : Str → Option Value} {g : Heap}

set_option maxHeartbeats 8000000 in
theorem c_corners {t : Addr} {v1 v2 v3 v4 : Value} (hT : IsTup g t #[v1, v2, v3, v4]) : Pu prog w p loose mean mg mb 10 (.ref 288) [.ref t] g (OCorners v1 v2 v3 v4) := by
  intro dp un gd cn cs a ccd cl outer A₀ base h₀ L m gens drawn toks os Q E B F X T hk hd hu hret
  refine wpAny_call ?_
  k_dflt (refine' enterP (binds := [(Str.ofString "frame", .ref t)]) ?k1 ?k2 ?k3 ?k5 ?kA ?kF ?kK ?k6 ?k7 ?k8 ?k9 ?kB ?_ ?c2 ?c3 ?c4 ?c5)
  walk_at "QZ enter1"
  intro L' h' F' B' X' T'
  have N' := News.nil (h₀ := g) (h := h') (L := L')
  dsimp only at F' B' X' T'
  clear B F X T
  show wpAny _ _ _ _ _ _
  k_fold
  k_steps
  all_goals (exact hret _ _ _ _ (by walk_at "QZ ext") (by walk_at "QZ new") (OCorners.mk _ _ _ _ _))
local macro_rules | `(tactic| walk_at "call ref") => `(tactic| (k_here; (with_reducible show wpAny _ _ (call (Value.ref 288) _) _ _ _); k_dflt (refine' usePu (c_corners ?hT) ?q1 ?q2 ?q3 ?q4 ?q5 ?q6 ?q7 ?q8 ?_; (case hT => first | assumption | exact isTup_base (by k_asm) (by assumption)); walk_at "QZ use"); walk_at "QZ f0"))
local macro_rules | `(tactic| walk_at "call ref") => `(tactic| (k_here; (with_reducible show wpAny _ _ (call (Value.ref 229) _) _ _ _); k_dflt (refine' usePu (c_applied ?d0 ?d1 ?d2 ?s1 ?s2) ?q1 ?q2 ?q3 ?q4 ?q5 ?q6 ?q7 ?q8 ?_; (case d0 => walk_at "QZ mat"); (case d1 => walk_at "QZ dec"); (case d2 => walk_at "QZ dec"); (case s1 => assumption); (case s2 => assumption); walk_at "QZ use"); walk_at "QZ f3"))
local macro_rules | `(tactic| walk_at "call ref") => `(tactic| (k_here; (with_reducible show wpAny _ _ (call (Value.ref 281) _) _ _ _); refine stop9 ?_))

set_option maxHeartbeats 8000000 in
theorem c_transformed_box {t : Addr} {v1 v2 v3 v4 u : Value} {na nb nc nd ne nf x1 x2 x3 x4 : Int} (hT : IsTup g t #[v1, v2, v3, v4]) (h1 : DecAt w.params g v1 x1) (h2 : DecAt w.params g v2 x2) (h3 : DecAt w.params g v3 x3) (h4 : DecAt w.params g v4 x4) (hM : MatG w.params (At g) u na nb nc nd ne nf) (s1 : Sm x1) (s2 : Sm x2) (s3 : Sm x3) (s4 : Sm x4) : Pu prog w p loose mean mg mb 80 (.ref 293) [.ref t, u] g (fun tl v => BoxG w.params (In tl) v (bxl (na * x1 + nc * x2 + ne) (na * x3 + nc * x2 + ne) (na * x3 + nc * x4 + ne) (na * x1 + nc * x4 + ne)) (bxl (nb * x1 + nd * x2 + nf) (nb * x3 + nd * x2 + nf) (nb * x3 + nd * x4 + nf) (nb * x1 + nd * x4 + nf)) (bxh (na * x1 + nc * x2 + ne) (na * x3 + nc * x2 + ne) (na * x3 + nc * x4 + ne) (na * x1 + nc * x4 + ne)) (bxh (nb * x1 + nd * x2 + nf) (nb * x3 + nd * x2 + nf) (nb * x3 + nd * x4 + nf) (nb * x1 + nd * x4 + nf))) := by
  have hM0 := hM
  refine MatG.el (hM) ?_
  try clear hM
  intro xM dxM vM1 vM2 vM3 vM4 vM5 vM6 tM1 tM2 tM3 tM4 tM5 tM6 eM gxM gdM gM1 gM2 gM3 gM4 gM5 gM6
  subst eM
  replace gxM := At.raw gxM
  replace gdM := At.raw gdM
  intro dp un gd cn cs a ccd cl outer A₀ base h₀ L m gens drawn toks os Q E B F X T hk hd hu hret
  refine wpAny_call ?_
  k_dflt (refine' enterC (binds := [(Str.ofString "frame", .ref t), (Str.ofString "m", .ref xM)]) ?k1 ?k2 ?k3 ?k5 ?kA ?kF ?kK ?k6 ?k7 ?k8 ?k9 ?kB ?kD ?_ ?c2 ?c3 ?c4)
  walk_at "QZ enterC1"
  intro L' h' tk' cells' F' N' Y' B' X' T'
  k_cells Y'
  dsimp only at F' B' X' T' N'
  clear B F X T
  show wpAny _ _ _ _ _ _
  k_fold
  k_steps
  refine .go ?_
  refine LCp.ListComp_P (F₀ := by k_asm) (by with_unfolding_all rfl) (by decide) (by rfl) (by decide) (by rfl) (by rfl) (by decide) ?_
  k_steps
  refine .go ?_
  let XX : Nat → Int := fun i => if i = 0 then x1 else if i = 1 then x3 else if i = 2 then x3 else x1
  let YY : Nat → Int := fun i => if i = 0 then x2 else if i = 1 then x2 else x4
  refine srcP (Out := fun i => OPair w.params (na * XX i + nc * YY i + ne) (nb * XX i + nd * YY i + nf)) rfl (by k_asm) (by k_asm) (.inr ⟨_, by k_mem, rfl, _, rfl⟩) (Nat.le_of_ble_eq_true rfl) ?el ?fin
  case el =>
    intro g1
    refine el4 ?_ ?_ ?_ ?_
    all_goals
      refine ⟨_, _, _, _, rfl, by k_mem, ?_⟩
      intro C oC m₂ h tk nw E' hC hx hx₂ F' N'
      k_steps
      exact ElEnd.call (by assumption) (by k_asm) (by k_asm) (by assumption)
  case fin =>
    intro g1
    refine AfterE.fin ?_
    intro D h' tk' ys tl hA F' N' off
    refine ex4 (all4 hA) ?_
    intro y0 y1 y2 y3 zz9
    refine and5 zz9 ?_
    try clear zz9
    intro e9r26 n9r27 n9r28 n9r29 n9r30
    subst e9r26
    obtain ⟨t0, z0, o0⟩ := n9r27
    obtain ⟨t1, z1, o1⟩ := n9r28
    obtain ⟨t2, z2, o2⟩ := n9r29
    obtain ⟨t3, z3, o3⟩ := n9r30
    refine ex3 (pair_kn o0 z0) ?_
    intro q0 a0 b0 zz9
    refine and4 zz9 ?_
    try clear zz9
    intro e9r31 m0 da0 db0
    subst e9r31
    refine ex3 (pair_kn o1 z1) ?_
    intro q1 a1 b1 zz9
    refine and4 zz9 ?_
    try clear zz9
    intro e9r32 m1 da1 db1
    subst e9r32
    refine ex3 (pair_kn o2 z2) ?_
    intro q2 a2 b2 zz9
    refine and4 zz9 ?_
    try clear zz9
    intro e9r33 m2 da2 db2
    subst e9r33
    refine ex3 (pair_kn o3 z3) ?_
    intro q3 a3 b3 zz9
    refine and4 zz9 ?_
    try clear zz9
    intro e9r34 m3 da3 db3
    subst e9r34
    clear o0 o1 o2 o3
    k_steps
    refine .go ?_
    (refine' usePu (c_box_of (G := In tl) (fun a o q => (N' _ (List.mem_cons_of_mem _ (List.mem_append.mpr (.inl q)))).1) da0 db0 ⟨_, (N' _ (List.mem_cons_of_mem _ (List.mem_append.mpr (.inl m0)))).1, rfl, _, rfl⟩ da1 db1 ⟨_, (N' _ (List.mem_cons_of_mem _ (List.mem_append.mpr (.inl m1)))).1, rfl, _, rfl⟩ da2 db2 ⟨_, (N' _ (List.mem_cons_of_mem _ (List.mem_append.mpr (.inl m2)))).1, rfl, _, rfl⟩ da3 db3 ⟨_, (N' _ (List.mem_cons_of_mem _ (List.mem_append.mpr (.inl m3)))).1, rfl, _, rfl⟩ (News.isList N' (.head _))) ?q1 ?q2 ?q3 ?q4 ?q5 ?q6 ?q7 ?q8 ?_; walk_at "QZ use")
    intro v9 h9 tk9 tl9 o9 F9 N9 l9
    exact hret v9 h9 tk9 (tl9 ++ tl) F9.keep (newIn_of N9 (fun q hq => (List.mem_append.mp hq).elim (fun h => List.mem_append.mpr (.inl h)) fun h => List.mem_append.mpr (.inr (.tail _ (List.mem_append.mpr (.inl h)))))) (BoxG.cmono (fun a o q => q.elim (fun q => List.mem_append.mpr (.inr q)) fun q => List.mem_append.mpr (.inl q)) o9)
end
end


-- QzF11

section
open PyProof.Rows.LCg PyProof.Rows.LCp
local macro_rules | `(tactic| walk_at "exec For Name Call cons nil") => `(tactic| (k_here; (rename Fr _ _ _ _ => lF'); (with_unfolding_all refine' For_invVF lF' ?k1 ?k2 ?_; (case k1 => exact rfl); (case k2 => exact rfl); k_whole)))
local macro_rules | `(tactic| walk_at "pyIter ref") => `(tactic| (k_here; (with_reducible show wpAny _ _ (pyIter (Value.ref _)) (fun it s₂ => LoopAtV _ _ _ _ _ _ _ _ _ it s₂) _ _); kf1_first))

theorem isn_list {prog : Program} {w : World} {A : Around} {E : Value → Shared → Prop} {s : Shared} {K : Frag} {C l : Addr} {its : Array Value} {Q : Value → Shared → Prop} (X : K.In s.heap) (hl : s.heap.IsList l its) (e : isNotIn K "list" C = true)
    (h : Q (.bool false) { s with toks := s.toks + 1 }) : wpAny (model prog w) A (call (.builtin "isinstance") [.ref l, .ref C]) Q E s := by
  refine ex1 hl ?_
  try clear hl
  intro o zz9
  refine and3 zz9 ?_
  try clear zz9
  intro ho hc _
  refine isn_call (P := fun h => ∃ o, h.get? l = some o ∧ o.cls = .type "list") X (fun M => ?_) e (by intro q; cases q) ⟨o, ho, hc⟩ list_cls h
  have : Looks M s.heap (typeOf (.ref l)) o.cls := (Looks.ld ho).andThen .now
  rwa [hc] at this
local macro_rules | `(tactic| walk_at "call builtin:isinstance") => `(tactic| (k_here; (with_reducible show wpAny _ _ (call _ [Value.ref _, Value.ref _]) _ _ _); k_dflt (refine' isn_list ?k1 ?k2 ?k3 ?_; (case k1 => k_in); (case k2 => is_list); (case k3 => k_not); k_whole)))
inductive OStr (x : Str) : List (Addr × Obj) → Value → Prop
  | mk (t : Tok) : OStr x [] (.str x t)
theorem usePuS {prog : Program} {w : World} {p : Program} {loose : List Str} {mean : ExcName → Option Value} {mg mb : Str → Option Value} {dep : Nat} {f : Value} {vs : List Value} {s : Shared}
    {x : Str}
    {dp un : Nat} {gd : Option (List Code)} {cn : Str} {cs : Scope} {a : Addr} {ccd : Value} {cl : List (Str × Addr)} {outer : List Env} {A₀ : Around} {base h₀ : Heap} {L : Addr} {m : Str → Option Value}
    {Q E : Value → Shared → Prop} {news : List (Addr × Obj)}
    (C : Pu prog w p loose mean mg mb dep f vs s.heap (OStr x))
    (B : Below A₀ base outer h₀) (F : Fr h₀ L s.heap m) (X : (hd.heap_39 w.params).In h₀) (N : News h₀ L s.heap news) (T : Top p loose mean mg mb h₀) (hk : cs.kind = .function)
    (hd : dp + dep < recursionLimit) (hu : un + 8 * dep < cLine)
    (h : ∀ t h' tk', Fr h₀ L h' m → News h₀ L h' news → Q (.str x t) { s with heap := h', toks := tk' }) :
    wpAny (model prog w) (ktrTop dp un gd cn cs L a ccd cl outer) (call f vs) Q E s := usePu C B F X N T hk hd hu fun v h' tk' tl o F9 N9 l9 => by
  cases o
  exact h _ _ _ F9 N9
def ShelfG (P : Params) (G : Addr → Obj → Prop) (v : Value) : Prop := ∃ x dx t1 t2 u1 u2, v = .ref x ∧ G x (instObj 443 dx) ∧ G dx (dictOf [⟨PyData.keyHash P (Str.ofString "table"), .str (Str.ofString "table") u1, .ref t1⟩, ⟨PyData.keyHash P (Str.ofString "trailer"), .str (Str.ofString "trailer") u2, .ref t2⟩] 2)
theorem ShelfG.raw {P : Params} {g : Heap} {v : Value} (D : ShelfG P (At g) v) : ∃ x dx t1 t2 u1 u2, v = .ref x ∧ g.get? x = some (instObj 443 dx) ∧ g.get? dx = some (dictOf [⟨PyData.keyHash P (Str.ofString "table"), .str (Str.ofString "table") u1, .ref t1⟩, ⟨PyData.keyHash P (Str.ofString "trailer"), .str (Str.ofString "trailer") u2, .ref t2⟩] 2) := D
theorem ShelfG.rawC {P : Params} {g : Heap} {v : Value} {b : Prop} (D : ShelfG P (At g) v) (f : ∀ x dx t1 t2 u1 u2, v = .ref x → g.get? x = some (instObj 443 dx) → g.get? dx = some (dictOf [⟨PyData.keyHash P (Str.ofString "table"), .str (Str.ofString "table") u1, .ref t1⟩, ⟨PyData.keyHash P (Str.ofString "trailer"), .str (Str.ofString "trailer") u2, .ref t2⟩] 2) → b) : b := ex6 D fun x dx t1 t2 u1 u2 z => and3 z (f x dx t1 t2 u1 u2)
theorem ShelfG.mono {P : Params} {G H : Addr → Obj → Prop} {v : Value} (D : ShelfG P G v) (e : ∀ a o, G a o → H a o) : ShelfG P H v :=
  ex6 D fun x dx t1 t2 u1 u2 z => and3 z fun q h1 h2 => ⟨x, dx, t1, t2, u1, u2, q, e _ _ h1, e _ _ h2⟩
section
variable {prog : Program} {w : World} {p : Program} {loose : List Str} {mean : ExcName → Option Value} {mg mb : Str → Option Value} {g : Heap}

set_option maxHeartbeats 8000000 in
theorem c_fetch_int {v : Value} (hS : ShelfG w.params (At g) v) (n : Int) (t : Tok) : Pu prog w p loose mean mg mb 8 (.ref 433) [v, .int n t] g (OVal (.int n t)) := by
  refine ShelfG.rawC hS ?_
  intro xS dS tS1 tS2 uS1 uS2 e9r35 gS1 gS2
  subst e9r35
  intro dp un gd cn cs a ccd cl outer A₀ base h₀ L m gens drawn toks os Q E B F X T hk hd hu hret
  refine wpAny_call ?_
  k_dflt (refine' enterP (binds := [(Str.ofString "self", .ref xS), (Str.ofString "value", .int n t)]) ?k1 ?k2 ?k3 ?k5 ?kA ?kF ?kK ?k6 ?k7 ?k8 ?k9 ?kB ?_ ?c2 ?c3 ?c4 ?c5)
  walk_at "QZ enter1"
  intro L' h' F' B' X' T'
  have N' := News.nil (h₀ := g) (h := h') (L := L')
  dsimp only at F' B' X' T'
  clear B F X T
  show wpAny _ _ _ _ _ _
  k_fold
  k_steps
  all_goals (exact hret _ _ _ _ (by walk_at "QZ ext") (by walk_at "QZ new") (OVal.mk))

set_option maxHeartbeats 8000000 in
theorem c_fetch_dec {v u : Value} {n : Int} (hS : ShelfG w.params (At g) v) (h1 : DecAt w.params g u n) : Pu prog w p loose mean mg mb 8 (.ref 433) [v, u] g (OVal u) := by
  refine ShelfG.rawC hS ?_
  intro xS dS tS1 tS2 uS1 uS2 e9r36 gS1 gS2
  subst e9r36
  have hv := h1
  refine DecG.rawC hv ?_
  intro a1 d1 t1 t2 t3 t4 e9r37 hx1 hd1
  subst e9r37
  intro dp un gd cn cs a ccd cl outer A₀ base h₀ L m gens drawn toks os Q E B F X T hk hd hu hret
  refine wpAny_call ?_
  k_dflt (refine' enterP (binds := [(Str.ofString "self", .ref xS), (Str.ofString "value", .ref a1)]) ?k1 ?k2 ?k3 ?k5 ?kA ?kF ?kK ?k6 ?k7 ?k8 ?k9 ?kB ?_ ?c2 ?c3 ?c4 ?c5)
  walk_at "QZ enter1"
  intro L' h' F' B' X' T'
  have N' := News.nil (h₀ := g) (h := h') (L := L')
  dsimp only at F' B' X' T'
  clear B F X T
  show wpAny _ _ _ _ _ _
  k_fold
  k_steps
  all_goals (exact hret _ _ _ _ (by walk_at "QZ ext") (by walk_at "QZ new") (OVal.mk))

set_option maxHeartbeats 8000000 in
theorem c_fetch_none {v : Value} (hS : ShelfG w.params (At g) v) : Pu prog w p loose mean mg mb 8 (.ref 433) [v, .none] g (OVal .none) := by
  refine ShelfG.rawC hS ?_
  intro xS dS tS1 tS2 uS1 uS2 e9r38 gS1 gS2
  subst e9r38
  intro dp un gd cn cs a ccd cl outer A₀ base h₀ L m gens drawn toks os Q E B F X T hk hd hu hret
  refine wpAny_call ?_
  k_dflt (refine' enterP (binds := [(Str.ofString "self", .ref xS), (Str.ofString "value", .none)]) ?k1 ?k2 ?k3 ?k5 ?kA ?kF ?kK ?k6 ?k7 ?k8 ?k9 ?kB ?_ ?c2 ?c3 ?c4 ?c5)
  walk_at "QZ enter1"
  intro L' h' F' B' X' T'
  have N' := News.nil (h₀ := g) (h := h') (L := L')
  dsimp only at F' B' X' T'
  clear B F X T
  show wpAny _ _ _ _ _ _
  k_fold
  k_steps
  all_goals (exact hret _ _ _ _ (by walk_at "QZ ext") (by walk_at "QZ new") (OVal.mk))

set_option maxHeartbeats 8000000 in
theorem c_fetch_list {v : Value} {l : Addr} {its : Array Value} (hS : ShelfG w.params (At g) v) (hl : g.IsList l its) : Pu prog w p loose mean mg mb 8 (.ref 433) [v, .ref l] g (OVal (.ref l)) := by
  refine ShelfG.rawC hS ?_
  intro xS dS tS1 tS2 uS1 uS2 e9r39 gS1 gS2
  subst e9r39
  intro dp un gd cn cs a ccd cl outer A₀ base h₀ L m gens drawn toks os Q E B F X T hk hd hu hret
  refine wpAny_call ?_
  k_dflt (refine' enterP (binds := [(Str.ofString "self", .ref xS), (Str.ofString "value", .ref l)]) ?k1 ?k2 ?k3 ?k5 ?kA ?kF ?kK ?k6 ?k7 ?k8 ?k9 ?kB ?_ ?c2 ?c3 ?c4 ?c5)
  walk_at "QZ enter1"
  intro L' h' F' B' X' T'
  have N' := News.nil (h₀ := g) (h := h') (L := L')
  dsimp only at F' B' X' T'
  clear B F X T
  show wpAny _ _ _ _ _ _
  k_fold
  k_steps
  all_goals (exact hret _ _ _ _ (by walk_at "QZ ext") (by walk_at "QZ new") (OVal.mk))

set_option maxHeartbeats 8000000 in
theorem c_kind_of_list {l : Addr} {its : Array Value} (hl : g.IsList l its) : Pu prog w p loose mean mg mb 6 (.ref 392) [.ref l] g (OStr (Str.ofString "array")) := by
  intro dp un gd cn cs a ccd cl outer A₀ base h₀ L m gens drawn toks os Q E B F X T hk hd hu hret
  refine wpAny_call ?_
  k_dflt (refine' enterP (binds := [(Str.ofString "value", .ref l)]) ?k1 ?k2 ?k3 ?k5 ?kA ?kF ?kK ?k6 ?k7 ?k8 ?k9 ?kB ?_ ?c2 ?c3 ?c4 ?c5)
  walk_at "QZ enter1"
  intro L' h' F' B' X' T'
  have N' := News.nil (h₀ := g) (h := h') (L := L')
  dsimp only at F' B' X' T'
  clear B F X T
  show wpAny _ _ _ _ _ _
  k_fold
  k_steps
  all_goals (exact hret _ _ _ _ (by walk_at "QZ ext") (by walk_at "QZ new") (OStr.mk _))

set_option maxHeartbeats 8000000 in
theorem c_kind_of_int (n : Int) (t : Tok) : Pu prog w p loose mean mg mb 6 (.ref 392) [.int n t] g (OStr (Str.ofString "int")) := by
  intro dp un gd cn cs a ccd cl outer A₀ base h₀ L m gens drawn toks os Q E B F X T hk hd hu hret
  refine wpAny_call ?_
  k_dflt (refine' enterP (binds := [(Str.ofString "value", .int n t)]) ?k1 ?k2 ?k3 ?k5 ?kA ?kF ?kK ?k6 ?k7 ?k8 ?k9 ?kB ?_ ?c2 ?c3 ?c4 ?c5)
  walk_at "QZ enter1"
  intro L' h' F' B' X' T'
  have N' := News.nil (h₀ := g) (h := h') (L := L')
  dsimp only at F' B' X' T'
  clear B F X T
  show wpAny _ _ _ _ _ _
  k_fold
  k_steps
  all_goals (exact hret _ _ _ _ (by walk_at "QZ ext") (by walk_at "QZ new") (OStr.mk _))

set_option maxHeartbeats 8000000 in
theorem c_kind_of_dec {u : Value} {n : Int} (h1 : DecAt w.params g u n) : Pu prog w p loose mean mg mb 6 (.ref 392) [u] g (OStr (Str.ofString "real")) := by
  have hv := h1
  refine DecG.rawC hv ?_
  intro a1 d1 t1 t2 t3 t4 e9r40 hx1 hd1
  subst e9r40
  intro dp un gd cn cs a ccd cl outer A₀ base h₀ L m gens drawn toks os Q E B F X T hk hd hu hret
  refine wpAny_call ?_
  k_dflt (refine' enterP (binds := [(Str.ofString "value", .ref a1)]) ?k1 ?k2 ?k3 ?k5 ?kA ?kF ?kK ?k6 ?k7 ?k8 ?k9 ?kB ?_ ?c2 ?c3 ?c4 ?c5)
  walk_at "QZ enter1"
  intro L' h' F' B' X' T'
  have N' := News.nil (h₀ := g) (h := h') (L := L')
  dsimp only at F' B' X' T'
  clear B F X T
  show wpAny _ _ _ _ _ _
  k_fold
  k_steps
  all_goals (exact hret _ _ _ _ (by walk_at "QZ ext") (by walk_at "QZ new") (OStr.mk _))
local macro_rules | `(tactic| walk_at "call ref") => `(tactic| (k_here; (with_reducible show wpAny _ _ (call (Value.ref 392) [Value.int _ _]) _ _ _); k_dflt (refine' usePuS (c_kind_of_int _ _) ?q1 ?q2 ?q3 ?q4 ?q5 ?q6 ?q7 ?q8 ?_; walk_at "QZ use"); intro t9 h9 tk9 F9 N9; (try k_sweep); (try k_fold)))
local macro_rules | `(tactic| walk_at "call ref") => `(tactic| (k_here; (with_reducible show wpAny _ _ (call (Value.ref 392) [Value.ref _]) _ _ _); k_dflt (refine' usePuS (c_kind_of_dec ?d0) ?q1 ?q2 ?q3 ?q4 ?q5 ?q6 ?q7 ?q8 ?_; (case d0 => walk_at "QZ dec"); walk_at "QZ use"); intro t9 h9 tk9 F9 N9; (try k_sweep); (try k_fold)))

set_option maxHeartbeats 8000000 in
theorem c_is_number_int (n : Int) (t : Tok) : Pu prog w p loose mean mg mb 12 (.ref 399) [.int n t] g (OVal (.bool true)) := by
  intro dp un gd cn cs a ccd cl outer A₀ base h₀ L m gens drawn toks os Q E B F X T hk hd hu hret
  refine wpAny_call ?_
  k_dflt (refine' enterP (binds := [(Str.ofString "value", .int n t)]) ?k1 ?k2 ?k3 ?k5 ?kA ?kF ?kK ?k6 ?k7 ?k8 ?k9 ?kB ?_ ?c2 ?c3 ?c4 ?c5)
  walk_at "QZ enter1"
  intro L' h' F' B' X' T'
  have N' := News.nil (h₀ := g) (h := h') (L := L')
  dsimp only at F' B' X' T'
  clear B F X T
  show wpAny _ _ _ _ _ _
  k_fold
  k_steps
  all_goals (exact hret _ _ _ _ (by walk_at "QZ ext") (by walk_at "QZ new") (OVal.mk))

set_option maxHeartbeats 8000000 in
theorem c_is_number_dec {u : Value} {n : Int} (h1 : DecAt w.params g u n) : Pu prog w p loose mean mg mb 12 (.ref 399) [u] g (OVal (.bool true)) := by
  have hv := h1
  refine DecG.rawC hv ?_
  intro a1 d1 t1 t2 t3 t4 e9r41 hx1 hd1
  subst e9r41
  intro dp un gd cn cs a ccd cl outer A₀ base h₀ L m gens drawn toks os Q E B F X T hk hd hu hret
  refine wpAny_call ?_
  k_dflt (refine' enterP (binds := [(Str.ofString "value", .ref a1)]) ?k1 ?k2 ?k3 ?k5 ?kA ?kF ?kK ?k6 ?k7 ?k8 ?k9 ?kB ?_ ?c2 ?c3 ?c4 ?c5)
  walk_at "QZ enter1"
  intro L' h' F' B' X' T'
  have N' := News.nil (h₀ := g) (h := h') (L := L')
  dsimp only at F' B' X' T'
  clear B F X T
  show wpAny _ _ _ _ _ _
  k_fold
  k_steps
  all_goals (exact hret _ _ _ _ (by walk_at "QZ ext") (by walk_at "QZ new") (OVal.mk))
end
end


-- QzF12
local macro_rules | `(tactic| walk_at "QZ sl") => `(tactic| (intro p9 hp9; repeat (first | exact hp9 | exact List.mem_append.mpr (.inl hp9) | refine List.mem_cons_of_mem _ ?_)))
local macro_rules | `(tactic| walk_at "QZ sr") => `(tactic| (intro p9 hp9; repeat (first | exact hp9 | refine List.mem_cons_of_mem _ ?_ | refine List.mem_append.mpr (.inr ?_))))
local macro_rules | `(tactic| walk_at "QZ numG") => `(tactic| with_reducible assumption)
local macro_rules | `(tactic| walk_at "call ref") => `(tactic| (k_here; (with_reducible show wpAny _ _ (call (Value.ref 433) [_, Value.ref _]) _ _ _); k_dflt (refine' usePuV (c_fetch_list ?d0 ?hl) ?q1 ?q2 ?q3 ?q4 ?q5 ?q6 ?q7 ?q8 ?_; (case d0 => walk_at "QZ shelf"); (case hl => is_list); walk_at "QZ use"); intro h9 tk9 F9 N9; (try k_sweep); (try k_fold)))
local macro_rules | `(tactic| walk_at "call builtin:all") => `(tactic| (k_here; refine stop9 ?_))
section
open PyProof.Rows.LCg PyProof.Rows.LCp

def NumG (P : Params) (G : Addr → Obj → Prop) (v : Value) (x : Int) : Prop := (∃ t, v = .int x t) ∨ DecG P G v x
theorem NumG.mono {P : Params} {G H : Addr → Obj → Prop} {v : Value} {x : Int} (D : NumG P G v x) (e : ∀ a o, G a o → H a o) : NumG P H v x := D.imp id fun d => d.mono e
theorem NumG.at {P : Params} {G : Addr → Obj → Prop} {h : Heap} {v : Value} {x : Int} (e : ∀ a o, G a o → h.get? a = some o) (D : NumG P G v x) : NumG P (At h) v x := D.mono e
theorem ShelfG.base {P : Params} {g h : Heap} {L : Addr} {m : Str → Option Value} {v : Value} (F : Fr g L h m) (D : ShelfG P (At g) v) : ShelfG P (At h) v := D.mono fun _ _ q => F.keep _ _ q
inductive ODecN (P : Params) (G : Addr → Obj → Prop) (x : Int) : List (Addr × Obj) → Value → Prop
  | mk (tl : List (Addr × Obj)) (v : Value) (D : DecG P (GI G tl) v x) : ODecN P G x tl v
theorem num4 {P : Params} {G : Addr → Obj → Prop} {v1 v2 v3 v4 : Value} {n1 n2 n3 n4 : Int} (k1 : NumG P G v1 n1) (k2 : NumG P G v2 n2) (k3 : NumG P G v3 n3) (k4 : NumG P G v4 n4) (ns : Nat → Int) (e0 : ns 0 = n1) (e1 : ns 1 = n2) (e2 : ns 2 = n3) (e3 : ns 3 = n4) :
    ∀ i v, (#[v1, v2, v3, v4] : Array Value)[i]? = some v → NumG P G v (ns i) := by
  intro i v hv
  match i, hv with
  | 0, hv => cases hv; rw [e0]; exact k1
  | 1, hv => cases hv; rw [e1]; exact k2
  | 2, hv => cases hv; rw [e2]; exact k3
  | 3, hv => cases hv; rw [e3]; exact k4
theorem ElEnd.none {h₀ h' : Heap} {L : Addr} {m : Str → Option Value} {s : Shared} {all nw : List (Addr × Obj)} {Out : List (Addr × Obj) → Value → Prop} {y : Value} {tk' : Nat} (out : Out [] y) (F : Fr h₀ L h' m) (N : News h₀ L h' all) (hn : ∀ p ∈ nw, p ∈ all) :
    ElEnd h₀ L m s nw Out y { s with heap := h', toks := tk' } :=
  .intro F N out (fun _ h => nomatch h) hn fun _ h => nomatch h
theorem News.dropMid {h₀ h : Heap} {L : Addr} {d : Addr × Obj} {tl news : List (Addr × Obj)} (N : News h₀ L h (d :: (tl ++ news))) : News h₀ L h (d :: news) := fun p hp => N p ((List.mem_cons.mp hp).elim (fun e => e ▸ .head _) fun h => .tail _ (List.mem_append.mpr (.inr h)))
theorem hGI {G : Addr → Obj → Prop} {g h : Heap} {L : Addr} {m : Str → Option Value} {tl news : List (Addr × Obj)} (hG : ∀ a o, G a o → g.get? a = some o) (F : Fr g L h m) (N : News g L h news) (s : ∀ p ∈ tl, p ∈ news) : ∀ a o, GI G tl a o → h.get? a = some o :=
  fun a o q => q.elim (fun q => F.keep _ _ (hG _ _ q)) fun q => (N _ (s _ q)).1
theorem gi_sub {G : Addr → Obj → Prop} {t tl : List (Addr × Obj)} (s : ∀ p ∈ t, p ∈ tl) : ∀ a o, GI G t a o → GI G tl a o := fun _ _ q => q.imp id fun q => s _ q
theorem OOld.get {P : Params} {G : Addr → Obj → Prop} {x : Int} {tl : List (Addr × Obj)} {v : Value} (o : OOld P G x tl v) : tl = [] ∧ DecG P G v x := by cases o; exact ⟨rfl, by assumption⟩
def FourG (P : Params) (G : Addr → Obj → Prop) (v : Value) (a b c d : Int) : Prop := ∃ l n v1 v2 v3 v4, v = .ref l ∧ G l (W.listOf #[v1, v2, v3, v4] n) ∧ DecG P G v1 a ∧ DecG P G v2 b ∧ DecG P G v3 c ∧ DecG P G v4 d
theorem Pu.weak {prog : Program} {w : World} {p : Program} {loose : List Str} {mean : ExcName → Option Value} {mg mb : Str → Option Value} {dep : Nat} {f : Value} {vs : List Value} {g : Heap} {O O' : List (Addr × Obj) → Value → Prop}
    (C : Pu prog w p loose mean mg mb dep f vs g O) (k : ∀ tl v, O tl v → O' tl v) : Pu prog w p loose mean mg mb dep f vs g O' := by
  intro dp un gd cn cs a ccd cl outer A₀ base h₀ L m gens drawn toks os Q E B F X T hk hd hu hret
  exact C _ _ _ _ _ _ _ _ _ _ _ _ _ _ _ _ _ _ _ _ B F X T hk hd hu fun v h' tk' tl e ni o => hret v h' tk' tl e ni (k _ _ o)
theorem all_items {its : Array Value} {ys : List Value} {tl : List (Addr × Obj)} (h : AllOut (fun i _ y => its[i]? = some y) its.size ys tl) : ys = its.toList := by
  refine and2 h ?_
  try clear h
  intro hl ha
  apply List.ext_getElem?
  intro i
  cases e : ys[i]? with
  | none =>
    have : its.size ≤ i := by rw [← hl]; exact List.getElem?_eq_none_iff.mp e
    simp [this]
  | some y =>
    refine ex1 (ha i y e) ?_
    intro _ zz9
    refine and2 zz9 ?_
    try clear zz9
    intro _ q
    rw [← q]; simp
theorem all_trues {prog : Program} {w : World} {A : Around} {E : Value → Shared → Prop} {s : Shared} {h₀ : Heap} {L l : Addr} {m : Str → Option Value} {news tl : List (Addr × Obj)} {ys : List Value} {n : Nat} {Q : Value → Shared → Prop} (F : Fr h₀ L s.heap m) (N : News h₀ L s.heap news) (hh : A.handled = none)
    (hl : s.heap.IsList l ys.toArray) (ha : AllOut (fun _ _ y => y = .bool true) n ys tl)
    (h : ∀ h' tk, Fr h₀ L h' m → News h₀ L h' news → Q (.bool true) { s with heap := h', toks := tk }) : wpAny (model prog w) A (call (.builtin "all") [.ref l]) Q E s := by
  have hy : ys = (List.replicate n true).map Value.bool := by
    refine and2 ha ?_
    try clear ha
    intro hn ha
    apply List.ext_getElem
    · simp [hn]
    · intro i h1 h2
      refine ex1 (ha i ys[i] (by simp [h1])) ?_
      intro _ zz9
      refine and2 zz9 ?_
      try clear zz9
      intro _ q
      rw [q]; simp
  have hb : ∀ n : Nat, LSm.BoolsAre ((List.replicate n true).map Value.bool) (List.replicate n true) := by
    intro n
    induction n with
    | zero => exact LSm.BoolsAre.nil
    | succ n ih => exact LSm.BoolsAre.cons _ ih
  refine LSm.all_bools (vs := ys) F N hh hl (hy ▸ hb n) fun h' tk F' N' => ?_
  have : (List.replicate n true).all id = true := by simp
  rw [this]; exact h h' tk F' N'
section
variable {prog : Program} {w : World} {p : Program} {loose : List Str} {mean : ExcName → Option Value} {mg mb : Str → Option Value} {g : Heap}

theorem c_fetch_num {v u : Value} {n : Int} (hS : ShelfG w.params (At g) v) (hn : NumG w.params (At g) u n) : Pu prog w p loose mean mg mb 8 (.ref 433) [v, u] g (OVal u) := by
  rcases hn with ⟨t, rfl⟩ | h
  · exact c_fetch_int hS n t
  · exact c_fetch_dec hS h
theorem c_is_number {u : Value} {n : Int} (hn : NumG w.params (At g) u n) : Pu prog w p loose mean mg mb 12 (.ref 399) [u] g (OVal (.bool true)) := by
  rcases hn with ⟨t, rfl⟩ | h
  · exact c_is_number_int n t
  · exact c_is_number_dec h
local macro_rules | `(tactic| walk_at "QZ d1") => `(tactic| skip)
theorem c_decimal_of_num {G : Addr → Obj → Prop} (hG : ∀ a o, G a o → g.get? a = some o) {u : Value} {n : Int} (hn : NumG w.params G u n) : Pu prog w p loose mean mg mb 6 (.ref 180) [u] g (ODecN w.params G n) := by
  rcases hn with ⟨t, rfl⟩ | h
  · refine Pu.weak (c_decimal_of_int n t) fun tl v o => ?_
    cases o with
    | mk a d t1 t2 t3 t4 hlt => exact .mk _ _ ⟨a, d, t1, t2, t3, t4, rfl, .inr (.head _), .inr (.tail _ (.head _))⟩
  · refine Pu.weak (c_decimal_of_dec (h.mono hG)) fun tl v o => ?_
    cases o
    exact .mk _ _ (h.mono gi_l)
local macro_rules | `(tactic| walk_at "QZ shelf") => `(tactic| first | (with_reducible assumption) | exact ShelfG.base (by k_asm) (by with_reducible assumption))
local macro_rules | `(tactic| walk_at "QZ num") => `(tactic| (refine' NumG.at ?e ?D; (case D => with_reducible assumption); (case e => walk_at "QZ hG")))
local macro_rules | `(tactic| walk_at "call ref") => `(tactic| (k_here; (with_reducible show wpAny _ _ (call (Value.ref 433) _) _ _ _); k_dflt (refine' usePuV (c_fetch_num ?d0 ?d1) ?q1 ?q2 ?q3 ?q4 ?q5 ?q6 ?q7 ?q8 ?_; (case d0 => walk_at "QZ shelf"); (case d1 => walk_at "QZ num"); walk_at "QZ use"); intro h9 tk9 F9 N9; (try k_sweep); (try k_fold)))
local macro_rules | `(tactic| walk_at "call ref") => `(tactic| (k_here; (with_reducible show wpAny _ _ (call (Value.ref 399) _) _ _ _); k_dflt (refine' usePuV (c_is_number ?d0) ?q1 ?q2 ?q3 ?q4 ?q5 ?q6 ?q7 ?q8 ?_; (case d0 => walk_at "QZ num"); walk_at "QZ use"); intro h9 tk9 F9 N9; (try k_sweep); (try k_fold)))
local macro_rules | `(tactic| walk_at "call ref") => `(tactic| (k_here; (with_reducible show wpAny _ _ (call (Value.ref 180) _) _ _ _); k_dflt (refine' usePu (c_decimal_of_num ?hG ?d0) ?q1 ?q2 ?q3 ?q4 ?q5 ?q6 ?q7 ?q8 ?_; (case d0 => walk_at "QZ numG"); (case hG => walk_at "QZ hG"); walk_at "QZ use"); walk_at "QZ f3"))
local macro_rules | `(tactic| walk_at "call ref") => `(tactic| (k_here; (with_reducible show wpAny _ _ (call (Value.ref 194) _) _ _ _); refine stop9 ?_))
local macro_rules | `(tactic| walk_at "call ref") => `(tactic| (k_here; (with_reducible show wpAny _ _ (call (Value.ref 201) _) _ _ _); refine stop9 ?_))

set_option maxHeartbeats 8000000 in
theorem c_four {sv : Value} {l : Addr} {v1 v2 v3 v4 : Value} {n1 n2 n3 n4 : Int} {G : Addr → Obj → Prop} (hG : ∀ a o, G a o → g.get? a = some o) (hS : ShelfG w.params (At g) sv) (hl : g.IsList l #[v1, v2, v3, v4]) (k1 : NumG w.params G v1 n1) (k2 : NumG w.params G v2 n2) (k3 : NumG w.params G v3 n3) (k4 : NumG w.params G v4 n4) : Pu prog w p loose mean mg mb 60 (.ref 459) [sv, .ref l] g (fun tl v => FourG w.params (GI G tl) v (min n1 n3) (min n2 n4) (max n1 n3) (max n2 n4)) := by
  have hS0 := hS
  refine ShelfG.rawC hS0 ?_
  intro xS dS tS1 tS2 uS1 uS2 e9r42 gS1 gS2
  subst e9r42
  intro dp un gd cn cs a ccd cl outer A₀ base h₀ L m gens drawn toks os Q E B F X T hk hd hu hret
  refine wpAny_call ?_
  k_dflt (refine' enterC (binds := [(Str.ofString "shelf", .ref xS), (Str.ofString "value", .ref l)]) ?k1 ?k2 ?k3 ?k5 ?kA ?kF ?kK ?k6 ?k7 ?k8 ?k9 ?kB ?kD ?_ ?c2 ?c3 ?c4)
  walk_at "QZ enterC1"
  intro L' h' tk' cells' F' N' Y' B' X' T'
  k_cells Y'
  dsimp only at F' B' X' T' N'
  clear B F X T
  show wpAny _ _ _ _ _ _
  k_fold
  k_steps
  refine .go ?_
  let ns : Nat → Int := fun i => if i = 0 then n1 else if i = 1 then n2 else if i = 2 then n3 else n4
  have hns := num4 k1 k2 k3 k4 ns rfl rfl rfl rfl
  refine Assign_ListComp_U (F₀ := by k_asm) (by rfl) (by with_unfolding_all rfl) (by with_unfolding_all rfl) (by decide) (by rfl) (by decide) (by rfl) (by rfl) (by rfl) ?_
  k_steps
  refine .go ?_
  refine srcU (Out := fun i _ y => (#[v1, v2, v3, v4] : Array Value)[i]? = some y) rfl (by k_asm) (by k_asm) (.inl hl) (Nat.le_of_ble_eq_true rfl) ?el ?fin
  case el =>
    intro g1 i v hi hv C oC m₂ h tk nw E' hC hx F' N'
    have hv' := hns i v hv
    k_steps
    refine ElEnd.none ?_ (by k_asm) (by k_asm) (by walk_at "QZ sr")
    exact hv
  case fin =>
  intro g1
  refine AfterA.fin ?_
  intro D1 h1 tk1 ys tl1 hA F' N' off
  obtain rfl := all_items hA
  replace N' := News.dropMid N'
  change News _ _ _ ((D1, LCg.lst [v1, v2, v3, v4]) :: _) at N'
  clear hA off
  k_steps
  refine .go ?_
  refine ListComp_U (F₀ := by k_asm) (by with_unfolding_all rfl) (by decide) (by rfl) (by decide) (by rfl) ?_
  k_steps
  refine .go ?_
  refine srcU (its := #[v1, v2, v3, v4]) (Out := fun _ _ y => y = .bool true) rfl (by k_asm) (by k_asm) (.inr ⟨_, by k_mem, rfl, _, rfl⟩) (Nat.le_of_ble_eq_true rfl) ?el ?fin
  case el =>
    intro g1 i v hi hv C oC m₂ h tk nw E' hC hx F' N'
    have hv' := hns i v hv
    k_steps
    refine ElEnd.none ?_ (by k_asm) (by k_asm) (by walk_at "QZ sr")
    exact rfl
  case fin =>
  intro g1
  refine AfterE.fin ?_
  intro D2 h2 tk2 ys tl2 hA F' N' off
  clear off
  k_steps
  refine .go ?_
  refine all_trues (by k_asm) (by k_asm) rfl (News.isList N' (.head _)) hA ?_
  intro h3 tk3 F3 N3
  replace N' := N3
  replace F' := F3
  clear N3 F3
  replace N' := News.dropMid N'
  replace N' : News _ _ _ _ := fun p hp => N' p (.tail _ hp)
  k_steps
  refine .go ?_
  refine Assign_ListComp_U (F₀ := by k_asm) (by rfl) (by with_unfolding_all rfl) (by with_unfolding_all rfl) (by decide) (by rfl) (by decide) (by rfl) (by rfl) (by rfl) ?_
  k_steps
  refine .go ?_
  refine srcU (its := #[v1, v2, v3, v4]) (Out := fun i tl y => DecG w.params (GI G tl) y (ns i)) rfl (by k_asm) (by k_asm) (.inr ⟨_, by k_mem, rfl, _, rfl⟩) (Nat.le_of_ble_eq_true rfl) ?el ?fin
  case el =>
    intro g1 i v hi hv C oC m₂ h tk nw E' hC hx F' N'
    have hv' := hns i v hv
    k_steps
    rename ODecN _ _ _ _ _ => o9
    refine ElEnd.call ?_ (by k_asm) (by k_asm) (by assumption)
    cases o9 with
    | mk D => exact D
  case fin =>
  intro g1
  refine AfterA.fin ?_
  intro D3 h4 tk4 ys tl hA F' N' off
  refine ex4 (all4 hA) ?_
  intro y0 y1 y2 y3 zz9
  refine and5 zz9 ?_
  try clear zz9
  intro e9r43 n9r44 n9r45 n9r46 n9r47
  subst e9r43
  obtain ⟨t0, z0, o0⟩ := n9r44
  obtain ⟨t1, z1, o1⟩ := n9r45
  obtain ⟨t2, z2, o2⟩ := n9r46
  obtain ⟨t3, z3, o3⟩ := n9r47
  replace o0 : DecG w.params (GI G tl) y0 n1 := o0.mono (gi_sub z0)
  replace o1 : DecG w.params (GI G tl) y1 n2 := o1.mono (gi_sub z1)
  replace o2 : DecG w.params (GI G tl) y2 n3 := o2.mono (gi_sub z2)
  replace o3 : DecG w.params (GI G tl) y3 n4 := o3.mono (gi_sub z3)
  clear hA off
  k_steps
  refine .go ?_
  (refine' usePu (c_least2 (G := GI G tl) (hGI hG (by k_asm) (by k_asm) (by walk_at "QZ sl")) o0 o2 (News.isList (by k_asm) (by k_mem))) ?q1 ?q2 ?q3 ?q4 ?q5 ?q6 ?q7 ?q8 ?_; walk_at "QZ use")
  intro v9 h9 tk9 tl9 o9 F9 N9 l9
  refine and2 (OOld.get o9) ?_
  intro e9r48 r1
  subst e9r48
  simp only [List.nil_append] at N9
  clear o9 l9
  k_sweep
  k_steps
  refine .go ?_
  (refine' usePu (c_least2 (G := GI G tl) (hGI hG (by k_asm) (by k_asm) (by walk_at "QZ sl")) o1 o3 (News.isList (by k_asm) (by k_mem))) ?q1 ?q2 ?q3 ?q4 ?q5 ?q6 ?q7 ?q8 ?_; walk_at "QZ use")
  intro v9 h9 tk9 tl9 o9 F9 N9 l9
  refine and2 (OOld.get o9) ?_
  intro e9r49 r2
  subst e9r49
  simp only [List.nil_append] at N9
  clear o9 l9
  k_sweep
  k_steps
  refine .go ?_
  (refine' usePu (c_greatest2 (G := GI G tl) (hGI hG (by k_asm) (by k_asm) (by walk_at "QZ sl")) o0 o2 (News.isList (by k_asm) (by k_mem))) ?q1 ?q2 ?q3 ?q4 ?q5 ?q6 ?q7 ?q8 ?_; walk_at "QZ use")
  intro v9 h9 tk9 tl9 o9 F9 N9 l9
  refine and2 (OOld.get o9) ?_
  intro e9r50 r3
  subst e9r50
  simp only [List.nil_append] at N9
  clear o9 l9
  k_sweep
  k_steps
  refine .go ?_
  (refine' usePu (c_greatest2 (G := GI G tl) (hGI hG (by k_asm) (by k_asm) (by walk_at "QZ sl")) o1 o3 (News.isList (by k_asm) (by k_mem))) ?q1 ?q2 ?q3 ?q4 ?q5 ?q6 ?q7 ?q8 ?_; walk_at "QZ use")
  intro v9 h9 tk9 tl9 o9 F9 N9 l9
  refine and2 (OOld.get o9) ?_
  intro e9r51 r4
  subst e9r51
  simp only [List.nil_append] at N9
  clear o9 l9
  k_sweep
  k_steps
  exact hret _ _ _ _ (by walk_at "QZ ext") (newIn_of (by k_asm) (fun _ h => h)) ⟨_, _, _, _, _, _, rfl, .inr (by k_mem), r1.mono (gi_sub (by walk_at "QZ sl")), r2.mono (gi_sub (by walk_at "QZ sl")), r3.mono (gi_sub (by walk_at "QZ sl")), r4.mono (gi_sub (by walk_at "QZ sl"))⟩
end
end


-- QzF13
local macro_rules | `(tactic| walk_at "QZ shelf") => `(tactic| first | (with_reducible assumption) | exact ShelfG.base (by k_asm) (by with_reducible assumption))
local macro_rules | `(tactic| walk_at "QZ num") => `(tactic| (refine' NumG.at ?e ?D; (case D => with_reducible assumption); (case e => walk_at "QZ hG")))
local macro_rules | `(tactic| walk_at "call builtin:isinstance") => `(tactic| (k_here; (with_reducible show wpAny _ _ (call _ [Value.ref _, Value.ref _]) _ _ _); k_dflt (refine' isn_list ?k1 ?k2 ?k3 ?_; (case k1 => k_in); (case k2 => is_list); (case k3 => k_not); k_whole)))
section
open PyProof.Rows.LCg PyProof.Rows.LCp
theorem fakeN {h : Heap} {d : Addr} {o : Obj} (e : h.get? d = some o) : News ({} : Heap) (d + 1) h [(d, o)] := fun p hp => by
  obtain rfl := List.mem_singleton.mp hp
  exact ⟨e, Nat.ne_of_lt (Nat.lt_succ_self _), rfl⟩
section
variable {prog : Program} {w : World} {K : Type} [DecidableEq K] {knd : KeyKind prog w K} {A : Around} {E : Value → Shared → Prop} {s : Shared} {d : Addr} {o : Obj} {kvs : List (K × Value)} {k : K} {key : Value}
theorem dget_method {pl : Sem Bool} {Q : Value × List Value → Shared → Prop} (ho : s.heap.get? d = some o) (hd : o.IsDictOf knd kvs) (h : Q (.builtin "dict.get", [.ref d]) s) : wpAny (model prog w) A (getMethod (.ref d) "get" pl) Q E s :=
  kdg_method (fakeN ho) (.head _) hd h
theorem dget_call {Q : Value → Shared → Prop} (ho : s.heap.get? d = some o) (hd : o.IsDictOf knd kvs) (lo : (d == sysModules) = false) (hkey : knd.is k key = true) (x : Option Value) (hl : valueAt kvs k = x) (h : Q (x.getD .none) { s with toks := s.toks + 1 }) :
    wpAny (model prog w) A (call (.builtin "dict.get") [.ref d, key]) Q E s := kdg_get1 (fakeN ho) (.head _) hd lo hkey x hl h
end
theorem fr_get {g h : Heap} {L a : Addr} {m : Str → Option Value} {o : Obj} (F : Fr g L h m) (e : g.get? a = some o) : h.get? a = some o := F.keep _ _ e
local macro_rules | `(tactic| walk_at "getMethod ref") => `(tactic| (k_here; k_dflt (refine' dget_method (knd := strKind _ _) ?a ?b ?_; (case a => exact fr_get (by k_asm) (by assumption)); (case b => assumption); k_whole)))
local macro_rules | `(tactic| walk_at "call builtin:dict.get") => `(tactic| (k_here; k_dflt (refine' dget_call (knd := strKind _ _) ?a ?b ?c ?d _ ?e ?_; (case a => exact fr_get (by k_asm) (by assumption)); (case b => assumption); (case c => assumption); (case d => exact strKind_is _ _ _ _); (case e => assumption); k_whole); (try dsimp only [Option.getD])))

section
variable {prog : Program} {w : World} {p : Program} {loose : List Str} {mean : ExcName → Option Value} {mg mb : Str → Option Value} {g : Heap}
local macro_rules | `(tactic| walk_at "call ref") => `(tactic| (k_here; (with_reducible show wpAny _ _ (call (Value.ref 459) _) _ _ _); refine stop9 ?_))
local macro_rules | `(tactic| walk_at "call type:tuple") => `(tactic| (k_here; refine stop9 ?_))

set_option maxHeartbeats 8000000 in
theorem c_rect {sv : Value} (hS : ShelfG w.params (At g) sv) {ha : Addr} {o : Obj} {kvs : List (Str × Value)} (ho : g.get? ha = some o) (hkv : o.IsDictOf (strKind prog w) kvs) (lo : (ha == sysModules) = false) {r : Addr} {v1 v2 v3 v4 : Value} {n1 n2 n3 n4 : Int} {G : Addr → Obj → Prop} (hG : ∀ a o, G a o → g.get? a = some o) (hv : valueAt kvs (Str.ofString "Rect") = some (.ref r)) (hl : g.IsList r #[v1, v2, v3, v4]) (k1 : NumG w.params G v1 n1) (k2 : NumG w.params G v2 n2) (k3 : NumG w.params G v3 n3) (k4 : NumG w.params G v4 n4) : Pu prog w p loose mean mg mb 80 (.ref 466) [sv, .ref ha] g (fun tl v => BoxG w.params (GI G tl) v (min n1 n3) (min n2 n4) (max n1 n3) (max n2 n4)) := by
  have hS0 := hS
  refine ShelfG.rawC hS0 ?_
  intro xS dS tS1 tS2 uS1 uS2 e9r52 gS1 gS2
  subst e9r52
  intro dp un gd cn cs a ccd cl outer A₀ base h₀ L m gens drawn toks os Q E B F X T hk hd hu hret
  refine wpAny_call ?_
  k_dflt (refine' enterP (binds := [(Str.ofString "shelf", .ref xS), (Str.ofString "head", .ref ha)]) ?k1 ?k2 ?k3 ?k5 ?kA ?kF ?kK ?k6 ?k7 ?k8 ?k9 ?kB ?_ ?c2 ?c3 ?c4 ?c5)
  walk_at "QZ enter1"
  intro L' h' F' B' X' T'
  have N' := News.nil (h₀ := g) (h := h') (L := L')
  dsimp only at F' B' X' T'
  clear B F X T
  show wpAny _ _ _ _ _ _
  k_fold
  k_steps
  refine .go ?_
  (refine' usePu (c_four (G := G) (hG_base (by k_asm) hG) (ShelfG.base (by k_asm) hS) (Fr.lst (by k_asm) hl) k1 k2 k3 k4) ?q1 ?q2 ?q3 ?q4 ?q5 ?q6 ?q7 ?q8 ?_; walk_at "QZ use")
  intro v9 h9 tk9 tl9 o9 F9 N9 l9
  refine ex6 o9 ?_
  try clear o9
  intro l' n w1 w2 w3 w4 zz9
  refine and6 zz9 ?_
  try clear zz9
  intro e9r53 hl' r1 r2 r3 r4
  subst e9r53
  clear l9
  k_sweep
  k_steps
  refine .go ?_
  refine kde_tupleOf (by k_asm) (by k_asm) ⟨_, hGI hG (by k_asm) (by k_asm) (by walk_at "QZ sl") _ _ hl', rfl, _, rfl⟩ (Nat.le_of_ble_eq_true rfl) (zs := [w1, w2, w3, w4]) rfl ?_
  intro D h' F' N' l1
  exact hret _ _ _ _ (by walk_at "QZ ext") (newIn_of (by k_asm) (fun _ h => h)) ⟨_, _, _, _, _, rfl, .inr (.head _), r1.mono (gi_sub (by walk_at "QZ sl")), r2.mono (gi_sub (by walk_at "QZ sl")), r3.mono (gi_sub (by walk_at "QZ sl")), r4.mono (gi_sub (by walk_at "QZ sl"))⟩
end
end


-- QzIter

section
open PySem.Spec
open PyProof.Rows.LCg PyProof.Rows.LCp

/-- an iterator over something that a comprehension takes: what pyIter makes, how it goes on -/
structure ItSrc (prog : Program) (w : World) (A : Around) (h₀ : Heap) (L : Addr) (m : Str → Option Value) (xv : Value) (s : Shared) (n : Nat) (P : Nat → Value → Prop) (S : List (Addr × Obj) → Prop) (news : List (Addr × Obj)) (o : Obj) (fp : List Addr) (St : Nat → Heap → Prop) : Prop where
  F : Fr h₀ L s.heap m
  N : News h₀ L s.heap news
  sz : n ≤ sizeLine
  src : S news
  iter : ∀ (Q : Value → Shared → Prop) (E : Value → Shared → Prop), Q (.ref s.heap.objs.size) { s with heap := s.heap.push o } → wpAny (model prog w) A (pyIter xv) Q E s
  W : Walks prog w A s.heap.objs.size fp [s.heap.objs.size] n P St
  io : ∀ i h, St i h → ∃ o, h.get? s.heap.objs.size = some o
  st : ∀ i h h' o nw, St i h → h.get? s.heap.objs.size = some o → h'.get? s.heap.objs.size = some o → (∀ b o, h₀.get? b = some o → h'.get? b = some o) → News h₀ L h' nw → S nw → St i h'
  st0 : St 0 (s.heap.push o)
  fps : ∀ b ∈ fp, b < s.heap.objs.size + 1

section
variable {prog : Program} {w : World} {A : Around} {E : Value → Shared → Prop} {s : Shared} {h₀ : Heap} {L : Addr} {m : Str → Option Value} {env : Env}

theorem ItSrc.range {r : Addr} {a b c : Int} {t u v : Tok} {n : Nat} {news : List (Addr × Obj)} (hh : A.handled = none) (F : Fr h₀ L s.heap m) (N : News h₀ L s.heap news) (hr : IsRange s.heap r a b c t u v) (hsm : Builtin.Range.small a b c = true) (hn : Builtin.Range.rangeSize a b c = ((n : Nat) : Int)) (hsz : n ≤ sizeLine) :
    ItSrc prog w A h₀ L m (.ref r) s n (fun i v => ∃ t, v = .int (a + (i : Int) * c) t) (fun _ => True) news { cls := .type "range_iterator", data := .fields #[rawInt a, rawInt (Builtin.Range.rangeSize a b c), rawInt c] } [s.heap.objs.size] (fun i h => IsRangeIter h s.heap.objs.size (a + (i : Nat) * c) ((n : Int) - (i : Nat)) c) where
  F := F
  N := N
  sz := hsz
  src := trivial
  iter := fun Q E q => wpAny_pyIter_range hr hsm q
  W := Walks.range hh _ a c n
  io := fun i h st => ⟨_, st⟩
  st := fun i h h' o nw st e e' _ _ _ => by
    have st' : h.get? s.heap.objs.size = some _ := st
    show h'.get? s.heap.objs.size = some _
    rw [e', ← e]; exact st'
  st0 := by show IsRangeIter _ _ _ _ _; rw [hn]; simpa using Heap.get?_push_size _ rfl
  fps := fun b hb => by rw [List.mem_singleton.mp hb]; exact Nat.lt_succ_self _

def TupAt (h₀ : Heap) (ax : Addr) (its : Array Value) (news : List (Addr × Obj)) : Prop := IsTup h₀ ax its ∨ ∃ o, (ax, o) ∈ news ∧ o.cls = .type "tuple" ∧ ∃ n, o.data = .seq its n
theorem TupAt.at {h : Heap} {ax : Addr} {its : Array Value} {news : List (Addr × Obj)} (x : TupAt h₀ ax its news) (k : ∀ b o, h₀.get? b = some o → h.get? b = some o) (N : News h₀ L h news) : h.IsTuple ax its := by
  rcases x with ⟨o, e, r⟩ | ⟨o, hm, r⟩
  · exact ⟨o, k _ _ e, r⟩
  · exact ⟨o, (N _ hm).1, r⟩
theorem ItSrc.tuple {ax : Addr} {its : Array Value} {news : List (Addr × Obj)} (hh : A.handled = none) (F : Fr h₀ L s.heap m) (N : News h₀ L s.heap news) (hl : TupAt h₀ ax its news) (hsz : its.size ≤ sizeLine) :
    ItSrc prog w A h₀ L m (.ref ax) s its.size (fun i v => its[i]? = some v) (TupAt h₀ ax its) news { cls := .type "tuple_iterator", data := .fields #[.ref ax, .int 0 0] } [s.heap.objs.size, ax] (fun i h => h.IsTupleIter s.heap.objs.size ax i ∧ h.IsTuple ax its) :=
  have ht := hl.at F.keep N
  have hlt : ax < s.heap.objs.size := by obtain ⟨_, e, _⟩ := ht; exact Heap.lt_size e
  { F := F, N := N, sz := hsz, src := hl
    iter := fun Q E q => wpAny_pyIter_tuple ht q
    W := Walks.tuple hh _ ax (Nat.ne_of_lt hlt) its
    io := fun i h st => by obtain ⟨o, e, _⟩ := st.1; exact ⟨o, e⟩
    st := fun i h h' o nw st e e' k N' S => ⟨by obtain ⟨o', q, r⟩ := st.1; rw [e] at q; cases q; exact ⟨o, e', r⟩, S.at k N'⟩
    st0 := ⟨⟨_, Heap.get?_push_size _ rfl, rfl, rfl⟩, by obtain ⟨o, e, r⟩ := ht; exact ⟨o, Heap.get?_push_of_some _ e, r⟩⟩
    fps := fun b hb => by
      rcases List.mem_cons.mp hb with rfl | hb
      · exact Nat.lt_succ_self _
      · rw [List.mem_singleton.mp hb]; exact Nat.lt_succ_of_lt hlt }

def SrcI (prog : Program) (w : World) (A : Around) (h₀ : Heap) (L : Addr) (m : Str → Option Value) (env : Env) (elt : Expr) (x : Str) (scope : Scope) (cl : List (Str × Addr)) (Fin : Shared → List Value → List (Addr × Obj) → Prop) (xv : Value) (s₁ : Shared) : Prop :=
  ∃ n P S news o fp St, ItSrc prog w A h₀ L m xv s₁ n P S news o fp St ∧ ∀ g, CompRest prog w A h₀ L m env elt x scope cl { s₁ with heap := g } S P (Fin { s₁ with heap := g }) n 0 [] news
theorem srcI {elt : Expr} {x : Str} {scope : Scope} {cl : List (Str × Addr)} {Fin : Shared → List Value → List (Addr × Obj) → Prop} {xv : Value} {s₁ : Shared} {n : Nat} {P : Nat → Value → Prop} {S : List (Addr × Obj) → Prop} {news : List (Addr × Obj)} {o : Obj} {fp : List Addr} {St : Nat → Heap → Prop} {Out : Nat → List (Addr × Obj) → Value → Prop}
    (I : ItSrc prog w A h₀ L m xv s₁ n P S news o fp St) (hS : ∀ nw, (∀ p ∈ news, p ∈ nw) → S nw)
    (el : ∀ g i v, i < n → P i v → ElU prog w A h₀ L m env elt x scope cl { s₁ with heap := g } news v (Out i))
    (fin : ∀ g ys tl, AllOut Out n ys tl → OffN tl news → Fin { s₁ with heap := g } ys (tl ++ news)) : SrcI prog w A h₀ L m env elt x scope cl Fin xv s₁ :=
  ⟨n, P, S, news, o, fp, St, I, fun g => rest_U (el g) hS (fin g)⟩
theorem tup_mono {ax : Addr} {its : Array Value} {news : List (Addr × Obj)} (h : TupAt h₀ ax its news) : ∀ nw, (∀ p ∈ news, p ∈ nw) → TupAt h₀ ax its nw := fun _ hs => h.imp id fun ⟨o, hm, r⟩ => ⟨o, hs _ hm, r⟩

theorem ListComp_I {elt iter : Expr} {x : Str} {px : Pos} {scope : Scope} {cl : List (Str × Addr)} {pos : Pos} {Q : Value → Shared → Prop} (_F₀ : Fr h₀ L s.heap m)
    (hclos : closureFor scope env = pure cl) (hcell : ∀ y ∈ scope.names, y.2 ≠ .cell) (hkind : scope.kind = .function)
    (hnames : ∀ y ∈ scope.names, y.2 = .local → scope.names.lookup y.1 = some .local) (hx : scope.names.lookup x = some .local)
    (h : wpAny (model prog w) A (eval iter env) (SrcI prog w A h₀ L m env elt x scope cl (fun s₂ => FinE h₀ L m s₂ Q)) E s)
    (hs : ∀ x, foldedSetIterable iter env x = pure x := by intro _; rfl) :
    wpAny (model prog w) A (eval (.ListComp elt [⟨.Name x px, iter, [], 0⟩] scope pos) env) Q E s := by
  rw [eval_ListComp]
  refine wpAny_comprehension_free (use := none) rfl hs hclos hkind hnames (wpAny_mono h (fun xv s₁ h₁ => ?_) fun _ _ e => e)
  refine ex7 h₁ ?_
  try clear h₁
  intro n P S news o fp St zz9
  refine and2 zz9 ?_
  try clear zz9
  intro I R
  refine I.iter _ _ ?_
  have up : ∀ b o', s₁.heap.get? b = some o' → (s₁.heap.push o).get? b = some o' := fun b o' e => Heap.get?_push_of_some _ e
  refine block_U (s₂ := { s₁ with heap := s₁.heap.push o }) I.W I.sz I.io I.st hcell hkind hx I.st0 (fun b hb => by show b < (s₁.heap.push o).objs.size; rw [Heap.size_push]; exact I.fps b hb)
    (I.F.keeps up) (I.N.grown up) (Nat.ne_of_lt I.F.ns.lt) (next_is_new I.F) (fun p hp => Nat.ne_of_lt (Heap.lt_size (I.N p hp).1)) I.src (R _) ?_
  intro D C h tk m' ys news' F' N' o1 hn hC₀ hD₀ hCL hDL hCD offC fin
  refine ⟨m', hn, fun h'' hs'' => fin D h'' tk (F'.change hs'' hCL hC₀) (fun p hp => ?_) o1⟩
  refine ⟨hs''.extBut _ _ ?_ (N' p hp).1, (N' p hp).2⟩
  rcases List.mem_cons.mp hp with rfl | hp
  · exact Ne.symm hCD
  · exact offC p hp

theorem Assign_ListComp_I {elt iter : Expr} {x y : Str} {px py : Pos} {scope : Scope} {cl : List (Str × Addr)} {pos spos : Pos} {Q : Flow → Shared → Prop} (_F₀ : Fr h₀ L s.heap m) (hLe : env.locals = L)
    (hsw : swapsWith (.ListComp elt [⟨.Name x px, iter, [], 0⟩] scope pos) (some (.Name y py)) spos.line env = pure true)
    (hclos : closureFor scope env = pure cl) (hcell : ∀ z ∈ scope.names, z.2 ≠ .cell) (hkind : scope.kind = .function)
    (hnames : ∀ z ∈ scope.names, z.2 = .local → scope.names.lookup z.1 = some .local) (hx : scope.names.lookup x = some .local)
    (hy : env.kindOf y = some .local) (hp : (env.scope.kind == .class || (env.scope.kind == .module && env.locals != env.globals)) = false)
    (h : wpAny (model prog w) A (eval iter env) (SrcI prog w A h₀ L m env elt x scope cl (fun s₂ => FinA h₀ L m s₂ y Q)) E s)
    (hs : ∀ x, foldedSetIterable iter env x = pure x := by intro _; rfl) :
    wpAny (model prog w) A (exec (.Assign [.Name y py] (.ListComp elt [⟨.Name x px, iter, [], 0⟩] scope pos) spos) env) Q E s := by
  subst hLe
  rw [exec_Assign_Name_used _ _ _ _ hsw]
  refine wpAny_bind (wpAny_standAt (wpAny_bind ?_))
  show wpAny _ A (do let _ ← comprehension (.ListComp elt [⟨.Name x px, iter, [], 0⟩] scope pos) scope env _ (newList []) false (eval iter env) (some (assign (.Name y py) env))) _ _ s
  refine wpAny_bind (wpAny_mono (wpAny_comprehension_free (use := some (assign (.Name y py) env)) (Q := fun _ s' => Q .next s') rfl hs hclos hkind hnames
    (wpAny_mono h (fun xv s₁ h₁ => ?_) fun _ _ e => e)) (fun _ s' hq => wpAny_pure (wpAny_pure hq)) fun _ _ e => e)
  refine ex7 h₁ ?_
  try clear h₁
  intro n P S news o fp St zz9
  refine and2 zz9 ?_
  try clear zz9
  intro I R
  refine I.iter _ _ ?_
  have up : ∀ b o', s₁.heap.get? b = some o' → (s₁.heap.push o).get? b = some o' := fun b o' e => Heap.get?_push_of_some _ e
  refine block_U (s₂ := { s₁ with heap := s₁.heap.push o }) I.W I.sz I.io I.st hcell hkind hx I.st0 (fun b hb => by show b < (s₁.heap.push o).objs.size; rw [Heap.size_push]; exact I.fps b hb)
    (I.F.keeps up) (I.N.grown up) (Nat.ne_of_lt I.F.ns.lt) (next_is_new I.F) (fun p hp => Nat.ne_of_lt (Heap.lt_size (I.N p hp).1)) I.src (R _) ?_
  intro D C h' tk m' ys news' F' N' o1 hn hC₀ hD₀ hCL hDL hCD offC fin
  show wpAny _ A (assign (.Name y py) env (.ref D)) _ _ _
  refine wpAny_assign_Name (wpAny_storeName_local hy F'.ns (fun h₂ hn₂ hs₂ => ?_) hp)
  have hL₀ : h₀.get? env.locals = none := Heap.get?_none_of_le F'.above
  have F₂ : Fr h₀ env.locals h₂ (fun z => if z = y then some (.ref D) else m z) := ⟨hn₂, fun b o e => hs₂.extBut b o (fun q => by rw [q, hL₀] at e; cases e) (F'.keep b o e), F'.above⟩
  refine ⟨m', hn.sameBut hs₂ hCL, fun h'' hs'' => fin D h'' _ (F₂.change hs'' hCL hC₀) (fun p hp => ?_) o1⟩
  have z : h₂.get? p.1 = some p.2 := hs₂.extBut _ _ (N' p hp).2.1 (N' p hp).1
  refine ⟨hs''.extBut _ _ ?_ z, (N' p hp).2⟩
  rcases List.mem_cons.mp hp with rfl | hp
  · exact Ne.symm hCD
  · exact offC p hp
end
end


-- QzF14
local macro_rules | `(tactic| walk_at "getMethod ref") => `(tactic| (k_here; k_dflt (refine' dget_method (knd := strKind _ _) ?a ?b ?_; (case a => exact fr_get (by k_asm) (by assumption)); (case b => assumption); k_whole)))
local macro_rules | `(tactic| walk_at "call builtin:dict.get") => `(tactic| (k_here; k_dflt (refine' dget_call (knd := strKind _ _) ?a ?b ?c ?d _ ?e ?_; (case a => exact fr_get (by k_asm) (by assumption)); (case b => assumption); (case c => assumption); (case d => exact strKind_is _ _ _ _); (case e => assumption); k_whole); (try dsimp only [Option.getD])))
local macro_rules | `(tactic| k_updF) => `(tactic| (refine' UpdF.head ?a; (case a => assumption)))
local macro_rules | `(tactic| walk_at "SrcI") => `(tactic| (k_here; refine stop9 ?_))
local macro_rules | `(tactic| walk_at "call ref") => `(tactic| (k_here; (with_reducible show wpAny _ _ (call (Value.ref 399) _) _ _ _); k_dflt (refine' usePuV (c_is_number ?d0) ?q1 ?q2 ?q3 ?q4 ?q5 ?q6 ?q7 ?q8 ?_; (case d0 => walk_at "QZ num"); walk_at "QZ use"); intro h9 tk9 F9 N9; (try k_sweep); (try k_fold)))
local macro_rules | `(tactic| walk_at "call ref") => `(tactic| (k_here; (with_reducible show wpAny _ _ (call (Value.ref 180) _) _ _ _); k_dflt (refine' usePu (c_decimal_of_num ?hG ?d0) ?q1 ?q2 ?q3 ?q4 ?q5 ?q6 ?q7 ?q8 ?_; (case d0 => walk_at "QZ numG"); (case hG => walk_at "QZ hG"); walk_at "QZ use"); walk_at "QZ f3"))
section
open PyProof.Rows.LCg PyProof.Rows.LCp

def PairG (P : Params) (G : Addr → Obj → Prop) (y : Value) (X Y : Int) : Prop := ∃ q v u, y = .ref q ∧ G q (tupO [v, u]) ∧ DecG P G v X ∧ DecG P G u Y
theorem PairG.mono {P : Params} {G H : Addr → Obj → Prop} {y : Value} {X Y : Int} (D : PairG P G y X Y) (e : ∀ a o, G a o → H a o) : PairG P H y X Y :=
  ex3 D fun q v u z => and4 z fun h t a b => ⟨q, v, u, h, e _ _ t, a.mono e, b.mono e⟩
def QuadG (P : Params) (G : Addr → Obj → Prop) (v : Value) (ns : Nat → Int) : Prop := ∃ (q : Addr) (ps : List Value) (m : Nat), v = .ref q ∧ G q (W.listOf ps.toArray m) ∧ ps.length = 4 ∧ ∀ j y, ps[j]? = some y → PairG P G y (ns (2 * j)) (ns (2 * j + 1))
theorem QuadG.mono {P : Params} {G H : Addr → Obj → Prop} {v : Value} {ns : Nat → Int} (D : QuadG P G v ns) (e : ∀ a o, G a o → H a o) : QuadG P H v ns :=
  ex3 D fun q ps m z => and4 z fun h t l a => ⟨q, ps, m, h, e _ _ t, l, fun j y hy => PairG.mono (a j y hy) e⟩
def QuadsG (P : Params) (G : Addr → Obj → Prop) (v : Value) (k : Nat) (ns : Nat → Int) : Prop := ∃ (l : Addr) (qs : List Value) (n : Nat), v = .ref l ∧ G l (W.listOf qs.toArray n) ∧ qs.length = k ∧ ∀ i q, qs[i]? = some q → QuadG P G q (fun j => ns (8 * i + j))
theorem QuadsG.mono {P : Params} {G H : Addr → Obj → Prop} {v : Value} {k : Nat} {ns : Nat → Int} (D : QuadsG P G v k ns) (e : ∀ a o, G a o → H a o) : QuadsG P H v k ns :=
  ex3 D fun l qs n z => and4 z fun h t le a => ⟨l, qs, n, h, e _ _ t, le, fun i q hq => QuadG.mono (a i q hq) e⟩
theorem offR {D : Addr} {tl news : List (Addr × Obj)} (h : (∀ p ∈ tl ++ news, p.1 ≠ D) ∧ OffN tl news) : ∀ p ∈ news, p.1 ≠ D := fun p hp => h.1 p (List.mem_append.mpr (.inr hp))
local macro_rules | `(tactic| walk_at "exec Assign cons ListComp") => `(tactic| (k_here; first | (refine wpAny_Assign_Name ?_ (by with_unfolding_all rfl); (try k_fold)) | refine stop9 ?_))
theorem ElEnd.pair {h₀ h' : Heap} {L D : Addr} {m : Str → Option Value} {s : Shared} {c : Addr × Obj} {ob : Obj} {news nw tA tB : List (Addr × Obj)} {Out : List (Addr × Obj) → Value → Prop} {y : Value} {tk' : Nat} (F : Fr h₀ L h' m) (N : News h₀ L h' ((D, ob) :: (tB ++ (tA ++ (c :: (news ++ nw))))))
    (l1 : ∀ p ∈ tB ++ (tA ++ (c :: (news ++ nw))), p.1 < D) (oA : ∀ q ∈ tA, ∀ p ∈ c :: (news ++ nw), p.1 ≠ q.1) (oB : ∀ q ∈ tB, ∀ p ∈ tA ++ (c :: (news ++ nw)), p.1 ≠ q.1) (out : Out ((D, ob) :: (tB ++ tA)) y) : ElEnd h₀ L m s nw Out y { s with heap := h', toks := tk' } := by
  have hr : ∀ p ∈ nw, p ∈ c :: (news ++ nw) := fun p hp => .tail _ (List.mem_append.mpr (.inr hp))
  refine .intro F N out (fun p hp => ?_) (fun p hp => .tail _ (List.mem_append.mpr (.inr (List.mem_append.mpr (.inr (hr p hp)))))) fun q hq p hp => ?_
  · rcases List.mem_cons.mp hp with rfl | hp
    · exact .head _
    · rcases List.mem_append.mp hp with hp | hp
      · exact .tail _ (List.mem_append.mpr (.inl hp))
      · exact .tail _ (List.mem_append.mpr (.inr (List.mem_append.mpr (.inl hp))))
  · rcases List.mem_cons.mp hq with rfl | hq
    · exact Nat.ne_of_lt (l1 p (List.mem_append.mpr (.inr (List.mem_append.mpr (.inr (hr p hp))))))
    · rcases List.mem_append.mp hq with hq | hq
      · exact oB q hq p (List.mem_append.mpr (.inr (hr p hp)))
      · exact oA q hq p (hr p hp)
theorem ElEnd.one {h₀ h' : Heap} {L D : Addr} {m : Str → Option Value} {s : Shared} {c : Addr × Obj} {ob : Obj} {news nw : List (Addr × Obj)} {Out : List (Addr × Obj) → Value → Prop} {y : Value} {tk' : Nat} (F : Fr h₀ L h' m) (N : News h₀ L h' ((D, ob) :: (c :: (news ++ nw))))
    (l1 : ∀ p ∈ c :: (news ++ nw), p.1 < D) (out : Out [(D, ob)] y) : ElEnd h₀ L m s nw Out y { s with heap := h', toks := tk' } := by
  have hr : ∀ p ∈ nw, p ∈ c :: (news ++ nw) := fun p hp => .tail _ (List.mem_append.mpr (.inr hp))
  refine .intro F N out (fun p hp => ?_) (fun p hp => .tail _ (hr p hp)) fun q hq p hp => ?_
  · rw [List.mem_singleton.mp hp]; exact .head _
  · rw [List.mem_singleton.mp hq]; exact Nat.ne_of_lt (l1 p (hr p hp))
theorem reord {h₀ h : Heap} {L : Addr} {d3 d1 c3 c2 c1 : Addr × Obj} {tl : List (Addr × Obj)} (N : News h₀ L h (d3 :: (tl ++ [d1, c3, c2, c1]))) : News h₀ L h (c3 :: d3 :: d1 :: c2 :: c1 :: tl) := fun p hp => N p (by
  simp only [List.mem_cons, List.mem_append, List.not_mem_nil, or_false] at hp ⊢
  rcases hp with h | h | h | h | h | h <;> simp [h])
theorem offc {d3 d1 c3 c2 c1 : Addr × Obj} {tl : List (Addr × Obj)} (off : (∀ p ∈ tl ++ [d1, c3, c2, c1], p.1 ≠ d3.1) ∧ OffN tl [d1, c3, c2, c1]) (h1 : c3.1 ≠ d1.1) (h2 : c3.1 ≠ c2.1) (h3 : c3.1 ≠ c1.1) : ∀ p ∈ d3 :: d1 :: c2 :: c1 :: tl, p.1 ≠ c3.1 := fun p hp => by
  simp only [List.mem_cons] at hp
  rcases hp with rfl | rfl | rfl | rfl | hp
  · exact Ne.symm (off.1 c3 (by simp))
  · exact Ne.symm h1
  · exact Ne.symm h2
  · exact Ne.symm h3
  · exact Ne.symm (off.2 p hp c3 (by simp))
theorem pick4 (ys : List Value) (i k : Nat) (hk : i < k) (hl : ys.toArray.size = 4 * k) : (slicePick ys.toArray (some (0 + (i : Int) * 4)) (some (0 + (i : Int) * 4 + 4)) none).toList = (ys.drop (4 * i)).take 4 := by
  have e1 : (0 + (i : Int) * 4) = ((4 * i : Nat) : Int) := by omega
  have e2 : (0 + (i : Int) * 4 + 4) = ((4 * i + 4 : Nat) : Int) := by omega
  rw [e1, show ((4 * i : Nat) : Int) + 4 = ((4 * i + 4 : Nat) : Int) by omega, slicePick_run _ _ _ (by omega) (by omega)]
  simp
theorem quads_fin {P : Params} {G : Addr → Obj → Prop} {all tl tl4 : List (Addr × Obj)} {ys qs : List Value} {k n : Nat} {ns : Nat → Int} {D4 : Addr} (hA : AllOut (fun i tl y => PairG P (GI G tl) y (ns (2 * i)) (ns (2 * i + 1))) (4 * k) ys tl)
    (hA4 : AllOut (fun i tl' y => ∃ q n, y = .ref q ∧ (q, W.listOf ((ys.drop (4 * i)).take 4).toArray n) ∈ tl') k qs tl4) (s1 : ∀ p ∈ tl, p ∈ all) (s2 : ∀ p ∈ tl4, p ∈ all) (hD : (D4, W.listOf qs.toArray n) ∈ all) : QuadsG P (GI G all) (.ref D4) k ns := by
  refine ⟨D4, qs, n, rfl, .inr hD, hA4.1, fun i q hq => ?_⟩
  have hi : i < k := by rw [← hA4.1]; exact (List.getElem?_eq_some_iff.mp hq).1
  obtain ⟨t, ht, q', n', rfl, hm⟩ := hA4.2 i q hq
  refine ⟨q', (ys.drop (4 * i)).take 4, n', rfl, .inr (s2 _ (ht _ hm)), ?_, fun j y hy => ?_⟩
  · rw [List.length_take, List.length_drop, hA.1]; omega
  · have hj : j < 4 := by
      have := (List.getElem?_eq_some_iff.mp hy).1
      rw [List.length_take] at this; omega
    rw [List.getElem?_take_of_lt hj, List.getElem?_drop] at hy
    obtain ⟨t', ht', hp⟩ := hA.2 _ y hy
    have e1 : 2 * (4 * i + j) = 8 * i + 2 * j := by omega
    rw [e1] at hp
    refine PairG.mono ?_ (gi_sub fun p hp => s1 p (ht' p hp))
    exact hp
theorem mod_eq {prog : Program} {w : World} {A : Around} {E : Value → Shared → Prop} {Q : Value → Shared → Prop} {s : Shared} {a b r : Int} {t u : Tok} (hb : b ≠ 0) (e : Int.fmod a b = r) (h : Q (.int r s.toks) { s with toks := s.toks + 1 }) : wpAny (model prog w) A (binaryOp .Mod (.int a t) (.int b u)) Q E s :=
  PyProof.Rows.mod_int' hb (by rw [e]; exact h)

section
variable {prog : Program} {w : World} {p : Program} {loose : List Str} {mean : ExcName → Option Value} {mg mb : Str → Option Value} {g : Heap}
local macro_rules | `(tactic| walk_at "call builtin:len") => `(tactic| (k_here; (with_reducible show wpAny _ _ (call (Value.builtin "len") [Value.ref _]) _ _ _); (with_unfolding_all refine' len_lit _ ?k1 ?k2 ?k3 ?_; (case k1 => first | is_list | exact News.isList (by k_asm) (by k_mem)); (case k2 => assumption); (case k3 => omega)); k_whole))
local macro_rules | `(tactic| walk_at "binaryOp Mod int int") => `(tactic| (refine mod_eq (by decide) (by with_reducible assumption) ?_))
local macro_rules | `(tactic| walk_at "subscriptTail Name Slice ref ref") => `(tactic| (k_here; (with_reducible show wpAny _ _ (subscriptTail _ (PySem.Expr.Slice _ _ none _) (Value.ref _) (Value.ref _)) _ _ _); k_dflt (refine' kmk_slice_lit ?F ?N ?l ?p ?q ?e ?_ ?s ?t ?z; (case F => k_asm); (case N => k_asm); (case l => first | is_list | exact News.isList (by k_asm) (by k_mem)); (case p => kmk_part); (case q => kmk_part); (case e => assumption); (case s => with_unfolding_all rfl); (case t => kmk_pure); (case z => assumption)); intro D' h' F' N' l1; (try k_sweep)))
local macro_rules | `(tactic| walk_at "subscriptTail") => `(tactic| (k_here; (with_reducible show wpAny _ _ (subscriptTail _ _ (Value.ref _) (Value.int _ _)) _ _ _); k_dflt (refine' item_list ?l ?a ?b ?c ?_; (case l => first | is_list | exact News.isList (by k_asm) (by k_mem)); (case a => omega); (case b => omega); (case c => assumption); k_whole)))
local macro_rules | `(tactic| walk_at "call ref") => `(tactic| (k_here; (with_reducible show wpAny _ _ (call (Value.ref 433) [_, Value.none]) _ _ _); k_dflt (refine' usePuV (c_fetch_none ?d0) ?q1 ?q2 ?q3 ?q4 ?q5 ?q6 ?q7 ?q8 ?_; (case d0 => walk_at "QZ shelf"); walk_at "QZ use"); intro h9 tk9 F9 N9; (try k_sweep); (try k_fold)))

set_option maxHeartbeats 8000000 in
theorem c_get_none {sv : Value} (hS : ShelfG w.params (At g) sv) {ha : Addr} {o : Obj} {kvs : List (Str × Value)} (ho : g.get? ha = some o) (hkv : o.IsDictOf (strKind prog w) kvs) (lo : (ha == sysModules) = false) {x : Str} {t : Tok} (hv : valueAt kvs x = none) : Pu prog w p loose mean mg mb 16 (.ref 440) [sv, .ref ha, .str x t] g (OVal .none) := by
  have hS0 := hS
  refine ShelfG.rawC hS0 ?_
  intro xS dS tS1 tS2 uS1 uS2 e9r54 gS1 gS2
  subst e9r54
  intro dp un gd cn cs a ccd cl outer A₀ base h₀ L m gens drawn toks os Q E B F X T hk hd hu hret
  refine wpAny_call ?_
  k_dflt (refine' enterP (binds := [(Str.ofString "self", .ref xS), (Str.ofString "head", .ref ha), (Str.ofString "key", .str x t)]) ?k1 ?k2 ?k3 ?k5 ?kA ?kF ?kK ?k6 ?k7 ?k8 ?k9 ?kB ?_ ?c2 ?c3 ?c4 ?c5)
  walk_at "QZ enter1"
  intro L' h' F' B' X' T'
  have N' := News.nil (h₀ := g) (h := h') (L := L')
  dsimp only at F' B' X' T'
  clear B F X T
  show wpAny _ _ _ _ _ _
  k_fold
  k_steps
  all_goals (exact hret _ _ _ _ (by walk_at "QZ ext") (by walk_at "QZ new") (OVal.mk))

set_option maxHeartbeats 8000000 in
theorem c_get_list {sv : Value} (hS : ShelfG w.params (At g) sv) {ha : Addr} {o : Obj} {kvs : List (Str × Value)} (ho : g.get? ha = some o) (hkv : o.IsDictOf (strKind prog w) kvs) (lo : (ha == sysModules) = false) {x : Str} {t : Tok} {r : Addr} {its : Array Value} (hv : valueAt kvs x = some (.ref r)) (hl : g.IsList r its) : Pu prog w p loose mean mg mb 16 (.ref 440) [sv, .ref ha, .str x t] g (OVal (.ref r)) := by
  have hS0 := hS
  refine ShelfG.rawC hS0 ?_
  intro xS dS tS1 tS2 uS1 uS2 e9r55 gS1 gS2
  subst e9r55
  intro dp un gd cn cs a ccd cl outer A₀ base h₀ L m gens drawn toks os Q E B F X T hk hd hu hret
  refine wpAny_call ?_
  k_dflt (refine' enterP (binds := [(Str.ofString "self", .ref xS), (Str.ofString "head", .ref ha), (Str.ofString "key", .str x t)]) ?k1 ?k2 ?k3 ?k5 ?kA ?kF ?kK ?k6 ?k7 ?k8 ?k9 ?kB ?_ ?c2 ?c3 ?c4 ?c5)
  walk_at "QZ enter1"
  intro L' h' F' B' X' T'
  have N' := News.nil (h₀ := g) (h := h') (L := L')
  dsimp only at F' B' X' T'
  clear B F X T
  show wpAny _ _ _ _ _ _
  k_fold
  k_steps
  all_goals (exact hret _ _ _ _ (by walk_at "QZ ext") (by walk_at "QZ new") (OVal.mk))
local macro_rules | `(tactic| walk_at "QZ geth") => `(tactic| ((case a1 => exact fr_get (by k_asm) (by assumption)); (case a2 => assumption); (case a3 => assumption); (case a4 => assumption)))
local macro_rules | `(tactic| walk_at "call ref") => `(tactic| (k_here; (with_reducible show wpAny _ _ (call (Value.ref 440) _) _ _ _); k_dflt (refine' usePuV (c_get_none ?d0 ?a1 ?a2 ?a3 ?a4) ?q1 ?q2 ?q3 ?q4 ?q5 ?q6 ?q7 ?q8 ?_; (case d0 => walk_at "QZ shelf"); walk_at "QZ geth"; walk_at "QZ use"); intro h9 tk9 F9 N9; (try k_sweep); (try k_fold)))

set_option maxHeartbeats 8000000 in
theorem c_quads_none {sv : Value} (hS : ShelfG w.params (At g) sv) {ha : Addr} {o : Obj} {kvs : List (Str × Value)} (ho : g.get? ha = some o) (hkv : o.IsDictOf (strKind prog w) kvs) (lo : (ha == sysModules) = false) {ns : Nat → Int} {G : Addr → Obj → Prop} (hv : valueAt kvs (Str.ofString "QuadPoints") = none) : Pu prog w p loose mean mg mb 40 (.ref 471) [sv, .ref ha] g (fun tl v => QuadsG w.params (GI G tl) v 0 ns) := by
  have hS0 := hS
  refine ShelfG.rawC hS0 ?_
  intro xS dS tS1 tS2 uS1 uS2 e9r56 gS1 gS2
  subst e9r56
  intro dp un gd cn cs a ccd cl outer A₀ base h₀ L m gens drawn toks os Q E B F X T hk hd hu hret
  refine wpAny_call ?_
  k_dflt (refine' enterC (binds := [(Str.ofString "shelf", .ref xS), (Str.ofString "head", .ref ha)]) ?k1 ?k2 ?k3 ?k5 ?kA ?kF ?kK ?k6 ?k7 ?k8 ?k9 ?kB ?kD ?_ ?c2 ?c3 ?c4)
  walk_at "QZ enterC1"
  intro L' h' tk' cells' F' N' Y' B' X' T'
  k_cells Y'
  dsimp only at F' B' X' T' N'
  clear B F X T
  show wpAny _ _ _ _ _ _
  k_fold
  k_steps
  exact hret _ _ _ _ (by walk_at "QZ ext") (newIn_of (by k_asm) (fun _ h => h)) ⟨_, [], _, rfl, .inr (by k_mem), rfl, fun i q h => by simp at h⟩
local macro_rules | `(tactic| walk_at "call ref") => `(tactic| (k_here; (with_reducible show wpAny _ _ (call (Value.ref 433) [_, _]) _ _ _); k_dflt (refine' usePuV (c_fetch_num ?d0 ?d1) ?q1 ?q2 ?q3 ?q4 ?q5 ?q6 ?q7 ?q8 ?_; (case d0 => walk_at "QZ shelf"); (case d1 => walk_at "QZ num"); walk_at "QZ use"); intro h9 tk9 F9 N9; (try k_sweep); (try k_fold)))
local macro_rules | `(tactic| walk_at "call ref") => `(tactic| (k_here; (with_reducible show wpAny _ _ (call (Value.ref 440) _) _ _ _); k_dflt (refine' usePuV (c_get_list ?d0 ?a1 ?a2 ?a3 ?a4 ?hl) ?q1 ?q2 ?q3 ?q4 ?q5 ?q6 ?q7 ?q8 ?_; (case d0 => walk_at "QZ shelf"); walk_at "QZ geth"; (case hl => is_list); walk_at "QZ use"); intro h9 tk9 F9 N9; (try k_sweep); (try k_fold)))

set_option maxHeartbeats 8000000 in
theorem c_quads {sv : Value} (hS : ShelfG w.params (At g) sv) {ha : Addr} {o : Obj} {kvs : List (Str × Value)} (ho : g.get? ha = some o) (hkv : o.IsDictOf (strKind prog w) kvs) (lo : (ha == sysModules) = false) {ns : Nat → Int} {G : Addr → Obj → Prop} (hG : ∀ a o, G a o → g.get? a = some o) {r : Addr} {vs : List Value} {k : Nat} (hv : valueAt kvs (Str.ofString "QuadPoints") = some (.ref r)) (hl : g.IsList r vs.toArray) (hk12 : k = 1 ∨ k = 2) (hlen : vs.toArray.size = 8 * k) (hns : ∀ i v, vs.toArray[i]? = some v → NumG w.params G v (ns i)) : Pu prog w p loose mean mg mb 40 (.ref 471) [sv, .ref ha] g (fun tl v => QuadsG w.params (GI G tl) v k ns) := by
  have hS0 := hS
  refine ShelfG.rawC hS0 ?_
  intro xS dS tS1 tS2 uS1 uS2 e9r57 gS1 gS2
  subst e9r57
  have hm8 : Int.fmod ((8 * k : Nat) : Int) 8 = 0 := by rcases hk12 with rfl | rfl <;> rfl
  have hk2 : k ≤ 2 := by omega
  intro dp un gd cn cs a ccd cl outer A₀ base h₀ L m gens drawn toks os Q E B F X T hk hd hu hret
  refine wpAny_call ?_
  k_dflt (refine' enterC (binds := [(Str.ofString "shelf", .ref xS), (Str.ofString "head", .ref ha)]) ?k1 ?k2 ?k3 ?k5 ?kA ?kF ?kK ?k6 ?k7 ?k8 ?k9 ?kB ?kD ?_ ?c2 ?c3 ?c4)
  walk_at "QZ enterC1"
  intro L' h' tk' cells' F' N' Y' B' X' T'
  k_cells Y'
  dsimp only at F' B' X' T' N'
  clear B F X T
  show wpAny _ _ _ _ _ _
  k_fold
  k_steps
  refine .go ?_
  refine ListComp_U (F₀ := by k_asm) (by with_unfolding_all rfl) (by decide) (by rfl) (by decide) (by rfl) ?_
  k_steps
  refine .go ?_
  refine srcU (Out := fun i _ y => vs.toArray[i]? = some y) rfl (by k_asm) (by k_asm) (.inl hl) (by rw [hlen, sizeLine_eq]; omega) ?el ?fin
  case el =>
    intro g1 i v hi hv C oC m₂ h tk nw E' hC hx F' N'
    have hv' := hns i v hv
    k_steps
    refine ElEnd.none ?_ (by k_asm) (by k_asm) (by walk_at "QZ sr")
    exact hv
  case fin =>
  intro g1
  refine AfterE.fin ?_
  intro D1 h1 tk1 ys tl1 hA F' N' off
  have hys : ys = vs := all_items hA
  rw [hys] at N'
  clear hys
  replace N' := News.dropMid N'
  replace off := offR off
  simp only [List.forall_mem_cons] at off
  refine and4 off ?_
  try clear off
  intro f1 f2 f3 zz8
  clear zz8
  clear hA
  k_steps
  refine .go ?_
  refine ListComp_U (F₀ := by k_asm) (by with_unfolding_all rfl) (by decide) (by rfl) (by decide) (by rfl) ?_
  k_steps
  refine .go ?_
  refine srcU (its := vs.toArray) (Out := fun _ _ y => y = .bool true) rfl (by k_asm) (by k_asm) (.inr ⟨_, by k_mem, rfl, _, rfl⟩) (by rw [hlen, sizeLine_eq]; omega) ?el ?fin
  case el =>
    intro g1 i v hi hv C oC m₂ h tk nw E' hC hx F' N'
    have hv' := hns i v hv
    k_steps
    refine ElEnd.none ?_ (by k_asm) (by k_asm) (by walk_at "QZ sr")
    exact rfl
  case fin =>
  intro g1
  refine AfterE.fin ?_
  intro D2 h2 tk2 ys tl2 hA F' N' off
  clear off
  k_steps
  refine .go ?_
  refine all_trues (by k_asm) (by k_asm) rfl (News.isList N' (.head _)) hA ?_
  intro h3 tk3 F3 N3
  replace N' := N3
  replace F' := F3
  clear N3 F3 hA
  replace N' := News.dropMid N'
  replace N' : News _ _ _ _ := fun p hp => N' p (.tail _ hp)
  k_steps
  refine .go ?_
  refine ListComp_I (by k_asm) (by with_unfolding_all rfl) (by decide) (by rfl) (by decide) (by rfl) ?_
  k_steps
  refine .go ?_
  refine srcI (Out := fun i tl y => PairG w.params (GI G tl) y (ns (2 * i)) (ns (2 * i + 1))) (ItSrc.range (n := 4 * k) rfl (by k_asm) (by k_asm) (by assumption) ?hsm ?hn ?hsz) (fun _ _ => trivial) ?el ?fin
  case hsm => rcases hk12 with rfl | rfl <;> decide +kernel
  case hn => rcases hk12 with rfl | rfl <;> rfl
  case hsz => rw [sizeLine_eq]; omega
  case el =>
    intro g1 i v hi hv0 C oC m₂ h tk nw E' hC hx F' N'
    refine ex1 hv0 ?_
    try clear hv0
    intro t0 e9r58
    subst e9r58
    have hj1 : (0 + (i : Int) * 2).toNat = 2 * i := by omega
    have hj2 : (0 + (i : Int) * 2 + 1).toNat = 2 * i + 1 := by omega
    obtain ⟨x1, hx1⟩ : ∃ x1, vs.toArray[(0 + (i : Int) * 2).toNat]? = some x1 := ⟨vs.toArray[(0 + (i : Int) * 2).toNat]'(by rw [hlen]; omega), Array.getElem?_eq_getElem _⟩
    obtain ⟨x2, hx2⟩ : ∃ x2, vs.toArray[(0 + (i : Int) * 2 + 1).toNat]? = some x2 := ⟨vs.toArray[(0 + (i : Int) * 2 + 1).toNat]'(by rw [hlen]; omega), Array.getElem?_eq_getElem _⟩
    have kx1 : NumG w.params G x1 (ns (2 * i)) := by have := hns _ _ hx1; rwa [hj1] at this
    have kx2 : NumG w.params G x2 (ns (2 * i + 1)) := by have := hns _ _ hx2; rwa [hj2] at this
    k_steps
    rename ODecN _ _ (ns (2 * i + 1)) _ _ => oB
    rename ODecN _ _ (ns (2 * i)) _ _ => oA
    refine ElEnd.pair (by k_asm) (by k_asm) (by assumption) (by assumption) (by assumption) ?_
    cases oA
    cases oB
    rename_i DA DB
    exact ⟨_, _, _, rfl, .inr (.head _), DA.mono (gi_sub fun p hp => .tail _ (List.mem_append.mpr (.inr hp))), DB.mono (gi_sub fun p hp => .tail _ (List.mem_append.mpr (.inl hp)))⟩
  case fin =>
  intro g1
  refine AfterE.fin ?_
  intro D3 h3 tk3 ys tl hA F' N' off
  have hne := offc (d3 := (D3, lst ys)) off f1 (Nat.ne_of_gt (Nat.lt_succ_self _)) (Nat.ne_of_gt (Nat.lt_succ_of_lt (Nat.lt_succ_self _)))
  replace N' := reord N'
  have hys : ys.toArray.size = 4 * k := hA.1
  have hz : ys.toArray.size ≤ sizeLine := by rw [hys, sizeLine_eq]; omega
  clear off
  k_steps
  refine .go ?_
  refine ListComp_I (by k_asm) (by with_unfolding_all rfl) (by decide) (by rfl) (by decide) (by rfl) ?_
  k_steps
  refine .go ?_
  refine srcI (Out := fun i tl' y => ∃ q n, y = .ref q ∧ (q, W.listOf ((ys.drop (4 * i)).take 4).toArray n) ∈ tl') (ItSrc.range (n := k) rfl (by k_asm) (by k_asm) (by assumption) ?hsm ?hn ?hsz) (fun _ _ => trivial) ?el ?fin
  case hsm => rcases hk12 with rfl | rfl <;> decide +kernel
  case hn => rcases hk12 with rfl | rfl <;> rfl
  case hsz => rw [sizeLine_eq]; omega
  case el =>
    intro g1 i v hi hv0 C oC m₂ h tk nw E' hC hx F' N'
    refine ex1 hv0 ?_
    try clear hv0
    intro t0 e9r59
    subst e9r59
    have hp4 := pick4 ys i k hi hys
    k_steps
    exact ElEnd.one (by k_asm) (by k_asm) (by assumption) ⟨_, _, rfl, .head _⟩
  case fin =>
  intro g1
  refine AfterE.fin ?_
  intro D4 h4 tk4 qs tl4 hA4 F' N' off
  clear off
  k_steps
  exact hret _ _ _ _ (by walk_at "QZ ext") (newIn_of (by k_asm) (fun _ h => h)) (quads_fin hA hA4 (fun p hp => .tail _ (List.mem_append.mpr (.inr (.tail _ (.tail _ (.tail _ (.tail _ (.tail _ hp)))))))) (fun p hp => .tail _ (List.mem_append.mpr (.inl hp))) (.head _))
end
end


-- QzF15

section
open PyProof.Rows.LCg PyProof.Rows.LCp

abbrev hd3 (r : Addr) (t : Tok) (c : Addr) : List (Str × Value) := [(Str.ofString "Rect", .ref r), (Str.ofString "F", .int 4 t), (Str.ofString "Contents", .ref c)]
abbrev hd4 (r : Addr) (t : Tok) (c q : Addr) : List (Str × Value) := [(Str.ofString "Rect", .ref r), (Str.ofString "F", .int 4 t), (Str.ofString "Contents", .ref c), (Str.ofString "QuadPoints", .ref q)]
abbrev ch1 (l : Addr) : List (Str × Value) := [(Str.ofString "Rect", .ref l)]
abbrev ch2 (l q : Addr) : List (Str × Value) := [(Str.ofString "Rect", .ref l), (Str.ofString "QuadPoints", .ref q)]
/-- a pure call that takes a ledger's objects along -/
def PuN (prog : Program) (w : World) (p : Program) (loose : List Str) (mean : ExcName → Option Value) (mg mb : Str → Option Value) (dep : Nat) (f : Value) (vs : List Value) (g : Heap) (news : List (Addr × Obj))
    (Out : List (Addr × Obj) → Value → Prop) : Prop :=
  ∀ (dp un : Nat) (gd : Option (List Code)) (cn : Str) (cs : Scope) (a : Addr) (ccd : Value) (cl : List (Str × Addr)) (outer : List Env) (A₀ : Around) (base h₀ : Heap) (L : Addr) (m : Str → Option Value)
    (gens : Array GenState) (drawn : Drawn) (toks : Nat) (os : OsState) (Q E : Value → Shared → Prop),
    Below A₀ base outer h₀ → Fr h₀ L g m → News h₀ L g news → (hd.heap_39 w.params).In h₀ → Top p loose mean mg mb h₀ → cs.kind = .function →
    dp + dep < recursionLimit → un + 8 * dep < cLine →
    (∀ v h' tk' tl, Ext g h' → NewIn g h' tl → Out tl v → Q v ⟨h', gens, drawn, tk', os⟩) →
    wpAny (model prog w) (ktrTop dp un gd cn cs L a ccd cl outer) (call f vs) Q E ⟨g, gens, drawn, toks, os⟩
theorem usePuN {prog : Program} {w : World} {p : Program} {loose : List Str} {mean : ExcName → Option Value} {mg mb : Str → Option Value} {dep : Nat} {f : Value} {vs : List Value} {s : Shared}
    {Out : List (Addr × Obj) → Value → Prop}
    {dp un : Nat} {gd : Option (List Code)} {cn : Str} {cs : Scope} {a : Addr} {ccd : Value} {cl : List (Str × Addr)} {outer : List Env} {A₀ : Around} {base h₀ : Heap} {L : Addr} {m : Str → Option Value}
    {Q E : Value → Shared → Prop} {news own : List (Addr × Obj)}
    (C : PuN prog w p loose mean mg mb dep f vs s.heap own Out) (hs : ∀ p ∈ own, p ∈ news)
    (B : Below A₀ base outer h₀) (F : Fr h₀ L s.heap m) (X : (hd.heap_39 w.params).In h₀) (N : News h₀ L s.heap news) (T : Top p loose mean mg mb h₀) (hk : cs.kind = .function)
    (hd : dp + dep < recursionLimit) (hu : un + 8 * dep < cLine)
    (h : ∀ v h' tk' tl, Out tl v → Fr h₀ L h' m → News h₀ L h' (tl ++ news) → (∀ q ∈ tl, ∀ p ∈ news, p.1 ≠ q.1) → Q v { s with heap := h', toks := tk' }) :
    wpAny (model prog w) (ktrTop dp un gd cn cs L a ccd cl outer) (call f vs) Q E s :=
  by
  obtain ⟨g, gens, drawn, toks, os⟩ := s
  refine C _ _ _ _ _ _ _ _ _ _ _ _ _ _ _ _ _ _ _ _ B F (fun p hp => N p (hs p hp)) X T hk hd hu fun v h' tk' tl e ni o => ?_
  refine h v h' tk' tl o (fr_ext F e) (fun q hq => ?_) fun q hq p hp z => ?_
  · rcases List.mem_append.mp hq with hq | hq
    · refine and2 (ni q hq) ?_
      intro h1 h2
      refine ⟨h2, fun e' => ?_, ?_⟩
      · refine ex3 (F.ns) ?_
        intro oL _ _ zz9
        refine and2 zz9 ?_
        try clear zz9
        intro hL _
        rw [e', hL] at h1; cases h1
      · cases hg : h₀.get? q.1 with
        | none => rfl
        | some o => rw [F.keep _ _ hg] at h1; cases h1
    · exact ⟨e _ _ (N q hq).1, (N q hq).2⟩
  · have := (ni q hq).1
    rw [← z, (N p hp).1] at this; cases this
theorem ext_of {g g' h : Heap} {L ca : Addr} {m : Str → Option Value} {oc : Obj} {news : List (Addr × Obj)} (hk : ∀ b o, b ∉ [ca] → g.get? b = some o → g'.get? b = some o) (hc : g.get? ca = some oc) (F : Fr g' L h m) (N : News g' L h news) (hm : (ca, oc) ∈ news) : Ext g h := fun b o e => by
  by_cases hb : b = ca
  · subst hb; rw [hc] at e; cases e; exact (N _ hm).1
  · exact F.keep _ _ (hk b o (by simpa using hb) e)
theorem newIn_of3 {g g' h : Heap} {L ca : Addr} {news tl : List (Addr × Obj)} (hk : ∀ b o, b ∉ [ca] → g.get? b = some o → g'.get? b = some o) (N : News g' L h news) (hs : ∀ q ∈ tl, q ∈ news) (hn : ∀ q ∈ tl, q.1 ≠ ca) : NewIn g h tl := fun q hq => by
  refine ⟨?_, (N q (hs q hq)).1⟩
  cases e : g.get? q.1 with
  | none => rfl
  | some o =>
    have := (N q (hs q hq)).2.2
    rw [hk _ _ (by simpa using hn q hq) e] at this
    cases this
theorem dict_copy {prog : Program} {w : World} {K : Type} [DecidableEq K] {knd : KeyKind prog w K} {A : Around} {E : Value → Shared → Prop} {s : Shared} {h₀ : Heap} {L d : Addr} {m : Str → Option Value} {news : List (Addr × Obj)} {o : Obj} {kvs : List (K × Value)} {p : Program} {loose : List Str} {mean : ExcName → Option Value} {mg mb : Str → Option Value} {Q : Value → Shared → Prop}
    (F : Fr h₀ L s.heap m) (N : News h₀ L s.heap news) (T : Top p loose mean mg mb h₀) (ho : s.heap.get? d = some o) (hd : o.IsDictOf knd kvs) (lo : (d == sysModules) = false) (hsz : kvs.length ≤ sizeLine)
    (h : ∀ f h' o', Fr h₀ L h' m → News h₀ L h' ((f, o') :: news) → (f == sysModules) = false → o'.IsDictOf knd kvs → (∀ p ∈ news, p.1 < f) → Q (.ref f) { s with heap := h' }) :
    wpAny (model prog w) A (call (.type "dict") [.ref d]) Q E s := by
  refine PySem.kt_call_dict lo (Heap.dictOf_iff.mpr ⟨o, ho, hd⟩) hsz fun h' hm hs => ?_
  refine ex1 (Heap.dictOf_iff.mp hm) ?_
  intro o' zz9
  refine and2 zz9 ?_
  try clear zz9
  intro ho' hd'
  have N1 := News.push F N { cls := .type "dict", data := .dict #[] }
  have hlt : sysModules < s.heap.objs.size := Nat.lt_of_le_of_lt (by decide) (T.g.keeps F.keep).lt
  refine h _ h' o' ((F.push _).change hs (N1 _ (.head _)).2.1 (N1.fresh (.head _))) (N1.setHead N.apart hs ho') ?_ hd' fun p hp => Heap.lt_size (N p hp).1
  exact beq_eq_false_iff_ne.mpr (Nat.ne_of_gt hlt)
local macro_rules | `(tactic| walk_at "call type:dict") => `(tactic| (k_here; (with_reducible show wpAny _ _ (call (Value.type _) [Value.ref _]) _ _ _); k_dflt (refine' dict_copy (knd := strKind _ _) ?a ?b ?c ?d ?e ?f ?g ?_; (case a => k_asm); (case b => k_asm); (case c => k_asm); (case d => exact fr_get (by k_asm) (by assumption)); (case e => assumption); (case f => assumption); (case g => exact Nat.le_of_ble_eq_true rfl); k_whole); intro f' h' o' F' N' lo' hd' l1; (try k_lt l1); (try k_sweep)))

section
variable {prog : Program} {w : World} {p : Program} {loose : List Str} {mean : ExcName → Option Value} {mg mb : Str → Option Value} {g : Heap}

set_option maxHeartbeats 8000000 in
theorem c_turned3 {r l c : Addr} {t : Tok} {ha ca : Addr} {o oc : Obj} (ho : g.get? ha = some o) (hkv : o.IsDictOf (strKind prog w) (hd3 r t c)) (lo : (ha == sysModules) = false) (hkc : oc.IsDictOf (strKind prog w) (ch1 l)) (lc : (ca == sysModules) = false) (hne : ha ≠ ca) :
    PuN prog w p loose mean mg mb 20 (.ref 454) [.ref ha, .ref ca] g [(ca, oc)] (fun tl v => ∃ d o', v = .ref d ∧ tl = [(d, o')] ∧ (d == sysModules) = false ∧ o'.IsDictOf (strKind prog w) (hd3 l t c)) := by
  intro dp un gd cn cs a ccd cl outer A₀ base h₀ L m gens drawn toks os Q E B F N X T hk hd hu hret
  have hc := (N _ (.head _)).1
  refine wpAny_call ?_
  k_dflt (refine' enterH (binds := [(Str.ofString "head", .ref ha), (Str.ofString "changes", .ref ca)]) ?k1 ?k2 ?k3 ?k4 ?k5 ?kA ?kF ?kK ?k6 ?k7 ?k8 ?k9 ?kB ?_ ?c2 ?c3 ?c4 ?c5)
  (case k4 => exact N)
  walk_at "QZ enter1"
  intro g' L' h' hg' F' N' B' X' T' l1
  replace ho := hg' _ _ (by simpa using hne) ho
  (try dsimp only at F' B' X' T' N')
  clear B F X T N
  k_lt l1
  show wpAny _ _ _ _ _ _
  k_fold
  k_steps
  rename Obj.IsDictOf _ _ _ => hq
  refine hret _ _ _ [(_, _)] (ext_of hg' hc (by k_asm) (by k_asm) (by k_mem)) (newIn_of3 hg' (by k_asm) (by walk_at "QZ sub") (fun q hq => by rw [List.mem_singleton.mp hq]; first | exact Nat.ne_of_gt (by assumption) | omega)) ⟨_, _, rfl, rfl, by assumption, hq⟩

set_option maxHeartbeats 8000000 in
theorem c_turned4 {r l c q q' : Addr} {t : Tok} {ha ca : Addr} {o oc : Obj} (ho : g.get? ha = some o) (hkv : o.IsDictOf (strKind prog w) (hd4 r t c q)) (lo : (ha == sysModules) = false) (hkc : oc.IsDictOf (strKind prog w) (ch2 l q')) (lc : (ca == sysModules) = false) (hne : ha ≠ ca) :
    PuN prog w p loose mean mg mb 20 (.ref 454) [.ref ha, .ref ca] g [(ca, oc)] (fun tl v => ∃ d o', v = .ref d ∧ tl = [(d, o')] ∧ (d == sysModules) = false ∧ o'.IsDictOf (strKind prog w) (hd4 l t c q')) := by
  intro dp un gd cn cs a ccd cl outer A₀ base h₀ L m gens drawn toks os Q E B F N X T hk hd hu hret
  have hc := (N _ (.head _)).1
  refine wpAny_call ?_
  k_dflt (refine' enterH (binds := [(Str.ofString "head", .ref ha), (Str.ofString "changes", .ref ca)]) ?k1 ?k2 ?k3 ?k4 ?k5 ?kA ?kF ?kK ?k6 ?k7 ?k8 ?k9 ?kB ?_ ?c2 ?c3 ?c4 ?c5)
  (case k4 => exact N)
  walk_at "QZ enter1"
  intro g' L' h' hg' F' N' B' X' T' l1
  replace ho := hg' _ _ (by simpa using hne) ho
  (try dsimp only at F' B' X' T' N')
  clear B F X T N
  k_lt l1
  show wpAny _ _ _ _ _ _
  k_fold
  k_steps
  rename Obj.IsDictOf _ _ _ => hq
  refine hret _ _ _ [(_, _)] (ext_of hg' hc (by k_asm) (by k_asm) (by k_mem)) (newIn_of3 hg' (by k_asm) (by walk_at "QZ sub") (fun q hq => by rw [List.mem_singleton.mp hq]; first | exact Nat.ne_of_gt (by assumption) | omega)) ⟨_, _, rfl, rfl, by assumption, hq⟩
end
end


-- QzF16
local macro_rules | `(tactic| walk_at "QZ sl'") => `(tactic| (intro p9 hp9; repeat (first | exact hp9 | refine List.mem_append.mpr (.inr ?_) | refine List.mem_cons_of_mem _ ?_)))
local macro_rules | `(tactic| walk_at "call ref") => `(tactic| (k_here; (with_reducible show wpAny _ _ (call (Value.ref 466) _) _ _ _); refine stop9 ?_))
local macro_rules | `(tactic| walk_at "call ref") => `(tactic| (k_here; (with_reducible show wpAny _ _ (call (Value.ref 293) _) _ _ _); refine stop9 ?_))
local macro_rules | `(tactic| walk_at "call ref") => `(tactic| (k_here; (with_reducible show wpAny _ _ (call (Value.ref 471) _) _ _ _); refine stop9 ?_))
local macro_rules | `(tactic| walk_at "call ref") => `(tactic| (k_here; (with_reducible show wpAny _ _ (call (Value.ref 454) _) _ _ _); refine stop9 ?_))
local macro_rules | `(tactic| walk_at "call type:list") => `(tactic| (k_here; refine stop9 ?_))
local macro_rules | `(tactic| walk_at "exec For Name Call cons nil") => `(tactic| (k_here; refine stop9 ?_))
local macro_rules | `(tactic| walk_at "exec For Tuple Name cons nil") => `(tactic| (k_here; refine stop9 ?_))
local macro_rules | `(tactic| walk_at "pyIter ref") => `(tactic| (k_here; refine stop9 ?_))
local macro_rules | `(tactic| walk_at "LoopStepV") => `(tactic| (k_here; refine stop9 ?_))
section
open PyProof.Rows.LCg PyProof.Rows.LCp

def mvq (na nb nc nd ne nf : Int) (ns : Nat → Int) (j : Nat) : Int := if j % 2 = 0 then na * ns j + nc * ns (j + 1) + ne else nb * ns (j - 1) + nd * ns j + nf
theorem sm_min {a b : Int} (h1 : Sm a) (h2 : Sm b) : Sm (min a b) := ⟨by have := h1.1; have := h2.1; omega, by have := h1.2; have := h2.2; omega⟩
theorem sm_max {a b : Int} (h1 : Sm a) (h2 : Sm b) : Sm (max a b) := ⟨by have := h1.1; have := h2.1; omega, by have := h1.2; have := h2.2; omega⟩
theorem keepA {h₀ h : Heap} {L : Addr} {p : Addr × Obj} {tl r : List (Addr × Obj)} (N : News h₀ L h (tl ++ p :: r)) : News h₀ L h (p :: tl) := fun q hq => N q (by
  rcases List.mem_cons.mp hq with rfl | h
  · exact List.mem_append.mpr (.inr (.head _))
  · exact List.mem_append.mpr (.inl h))
theorem keepO {p : Addr × Obj} {tl r : List (Addr × Obj)} (l : ∀ q ∈ tl, ∀ p' ∈ p :: r, p'.1 ≠ q.1) : ∀ q ∈ tl, q.1 ≠ p.1 := fun q hq => Ne.symm (l q hq p (.head _))
theorem keepL {h₀ h : Heap} {L : Addr} {p x : Addr × Obj} {tl : List (Addr × Obj)} (N : News h₀ L h (x :: p :: tl)) : News h₀ L h (p :: x :: tl) := fun q hq => N q (by
  simp only [List.mem_cons] at hq ⊢
  rcases hq with h | h | h <;> simp [h])
theorem keepN {p x : Addr × Obj} {tl : List (Addr × Obj)} (o : ∀ q ∈ tl, q.1 ≠ p.1) (l : ∀ q ∈ p :: tl, q.1 < x.1) : ∀ q ∈ x :: tl, q.1 ≠ p.1 := fun q hq => by
  rcases List.mem_cons.mp hq with rfl | h
  · exact Nat.ne_of_gt (l p (.head _))
  · exact o q h
theorem ne_base {g h : Heap} {L ha ca : Addr} {o oc : Obj} {news : List (Addr × Obj)} (ho : g.get? ha = some o) (N : News g L h news) (hm : (ca, oc) ∈ news) : ha ≠ ca := fun e => by
  have := (N _ hm).2.2
  rw [show (ca, oc).1 = ha from e.symm, ho] at this
  cases this
/-- what moved_annotation hands back, but the QuadPoints -/
def MovR (P : Params) (G : Addr → Obj → Prop) (l : Addr) (a b c d : Int) : Prop := ∃ e w1 w2 w3 w4, G l (W.listOf #[w1, w2, w3, w4] e) ∧ DecG P G w1 a ∧ DecG P G w2 b ∧ DecG P G w3 c ∧ DecG P G w4 d

section
variable {prog : Program} {w : World} {p : Program} {loose : List Str} {mean : ExcName → Option Value} {mg mb : Str → Option Value} {g : Heap}

set_option maxHeartbeats 8000000 in
theorem c_moved3 {sv : Value} (hS : ShelfG w.params (At g) sv) {r c : Addr} {t : Tok} {v1 v2 v3 v4 : Value} {n1 n2 n3 n4 : Int} {ha : Addr} {o : Obj} (ho : g.get? ha = some o) (hkv : o.IsDictOf (strKind prog w) (hd3 r t c)) (lo : (ha == sysModules) = false) {G : Addr → Obj → Prop} (hG : ∀ a o, G a o → g.get? a = some o) (hl : g.IsList r #[v1, v2, v3, v4]) (k1 : NumG w.params G v1 n1) (k2 : NumG w.params G v2 n2) (k3 : NumG w.params G v3 n3) (k4 : NumG w.params G v4 n4) (m1 : Sm n1) (m2 : Sm n2) (m3 : Sm n3) (m4 : Sm n4) {u : Value} {na nb nc nd ne nf : Int} (hM : MatG w.params (At g) u na nb nc nd ne nf)  : Pu prog w p loose mean mg mb 120 (.ref 478) [sv, .ref ha, u] g (fun tl v => ∃ d o' l, v = .ref d ∧ (d, o') ∈ tl ∧ (d == sysModules) = false ∧ o'.IsDictOf (strKind prog w) (hd3 l t c) ∧ MovR w.params (In tl) l (bxl (na * min n1 n3 + nc * min n2 n4 + ne) (na * max n1 n3 + nc * min n2 n4 + ne) (na * max n1 n3 + nc * max n2 n4 + ne) (na * min n1 n3 + nc * max n2 n4 + ne)) (bxl (nb * min n1 n3 + nd * min n2 n4 + nf) (nb * max n1 n3 + nd * min n2 n4 + nf) (nb * max n1 n3 + nd * max n2 n4 + nf) (nb * min n1 n3 + nd * max n2 n4 + nf)) (bxh (na * min n1 n3 + nc * min n2 n4 + ne) (na * max n1 n3 + nc * min n2 n4 + ne) (na * max n1 n3 + nc * max n2 n4 + ne) (na * min n1 n3 + nc * max n2 n4 + ne)) (bxh (nb * min n1 n3 + nd * min n2 n4 + nf) (nb * max n1 n3 + nd * min n2 n4 + nf) (nb * max n1 n3 + nd * max n2 n4 + nf) (nb * min n1 n3 + nd * max n2 n4 + nf))) := by
  have hS0 := hS
  refine ShelfG.rawC hS0 ?_
  intro xS dS tS1 tS2 uS1 uS2 e9r60 gS1 gS2
  subst e9r60
  have hM0 := hM
  refine MatG.el (hM0) ?_
  try clear hM0
  intro xM dxM vM1 vM2 vM3 vM4 vM5 vM6 tM1 tM2 tM3 tM4 tM5 tM6 eM gxM gdM gM1 gM2 gM3 gM4 gM5 gM6
  subst eM
  replace gxM := At.raw gxM
  replace gdM := At.raw gdM
  intro dp un gd cn cs a ccd cl outer A₀ base h₀ L m gens drawn toks os Q E B F X T hk hd hu hret
  refine wpAny_call ?_
  k_dflt (refine' enterP (binds := [(Str.ofString "shelf", .ref xS), (Str.ofString "head", .ref ha), (Str.ofString "m", .ref xM)]) ?k1 ?k2 ?k3 ?k5 ?kA ?kF ?kK ?k6 ?k7 ?k8 ?k9 ?kB ?_ ?c2 ?c3 ?c4 ?c5)
  walk_at "QZ enter1"
  intro L' h' F' B' X' T'
  have N' := News.nil (h₀ := g) (h := h') (L := L')
  dsimp only at F' B' X' T'
  clear B F X T
  show wpAny _ _ _ _ _ _
  k_fold
  k_steps
  refine .go ?_
  (refine' usePu (c_rect (G := G) (hS := ShelfG.base (by k_asm) hS) (fr_get (by k_asm) ho) hkv lo (hG_base (by k_asm) hG) (r := r) rfl (Fr.lst (by k_asm) hl) k1 k2 k3 k4) ?q1 ?q2 ?q3 ?q4 ?q5 ?q6 ?q7 ?q8 ?_; walk_at "QZ use")
  intro v9 h9 tk9 tl9 o9 F9 N9 l9
  refine BoxG.el (o9) ?_
  try clear o9
  intro t1 w1 w2 w3 w4 e9r61 ht1 e1 e2 e3 e4
  subst e9r61
  replace N9 := keepA N9
  clear l9
  k_sweep
  k_steps
  refine .go ?_
  have hGI9 := hGI hG (by k_asm) (by k_asm) (show ∀ p ∈ tl9, p ∈ _ by walk_at "QZ sl")
  (refine' usePu (c_transformed_box ⟨_, hGI9 _ _ ht1, rfl, _, rfl⟩ (e1.mono hGI9) (e2.mono hGI9) (e3.mono hGI9) (e4.mono hGI9) (MatG.base (by k_asm) hM) (sm_min m1 m3) (sm_min m2 m4) (sm_max m1 m3) (sm_max m2 m4)) ?q1 ?q2 ?q3 ?q4 ?q5 ?q6 ?q7 ?q8 ?_; walk_at "QZ use")
  intro v9 h9 tk9 tl8 o9 F9 N9 l9
  refine BoxG.el (o9) ?_
  try clear o9
  intro t2 z1 z2 z3 z4 e9r62 ht2 f1 f2 f3 f4
  subst e9r62
  replace N9 := keepA N9
  replace l9 := keepO l9
  clear hGI9 ht1 e1 e2 e3 e4
  k_sweep
  k_steps
  refine .go ?_
  refine kup_listOfT (by k_asm) N9 (.tail _ ht2) (zs := [z1, z2, z3, z4]) rfl ?_ (Nat.le_of_ble_eq_true rfl)
  intro lD cD h7 F7 N7 l7
  replace l9 := keepN (x := (lD, W.listOf [z1, z2, z3, z4].toArray cD)) l9 l7
  replace N7 := keepL N7
  clear l7
  k_sweep
  k_steps
  refine .go ?_
  with_unfolding_all refine' For_turns (by k_asm) ?_
  k_steps
  refine .go ?_
  (refine' usePu (c_quads_none (ns := fun _ => 0) (G := G) (ShelfG.base (by k_asm) hS) (fr_get (by k_asm) ho) hkv lo rfl) ?q1 ?q2 ?q3 ?q4 ?q5 ?q6 ?q7 ?q8 ?_; walk_at "QZ use")
  intro v9 h9 tk9 tlq o9 F9 N9 lq
  refine ex3 o9 ?_
  try clear o9
  intro lq1 qs nq zz9
  refine and4 zz9 ?_
  try clear zz9
  intro e9r63 hq1 hql zz8
  subst e9r63
  clear zz8
  have hqs : qs = [] := List.length_eq_zero_iff.mp hql
  subst hqs
  have hql9 : Heap.IsList h9 lq1 #[] := ⟨_, hGI hG (by k_asm) N9 (fun p hp => List.mem_append.mpr (.inl hp)) _ _ hq1, rfl, _, rfl⟩
  replace N9 : News _ _ _ _ := fun p hp => N9 p (List.mem_append.mpr (.inr hp))
  clear lq hq1 hql
  k_steps
  refine .go ?_
  refine iter_nil rfl (by k_asm) (by k_asm) hql9 (L_ne (by k_asm) hql9) ?_
  intro h6 tk6 F6 N6
  k_sweep
  k_steps
  refine .go ?_
  rename Obj.IsDictOf _ _ (strPairs _) => hch
  (refine' usePuN (c_turned3 (l := lD) (fr_get (by k_asm) ho) hkv lo hch (by assumption) ?hne) ?hs ?q1 ?q2 ?q3 ?q4 ?q5 ?q6 ?q7 ?q8 ?_; (case hne => exact ne_base ho (by k_asm) (by k_mem)); walk_at "QZ use"; (case hs => walk_at "QZ sub"))
  intro v9 h9 tk9 tl9 o9 F9 N9 l9
  refine ex2 o9 ?_
  try clear o9
  intro d o' zz9
  refine and4 zz9 ?_
  try clear zz9
  intro e9r64 e9r65 e1 e2
  subst e9r64
  subst e9r65
  exact hret _ _ _ _ (by walk_at "QZ ext") (newIn_of N9 (fun _ h => h)) ⟨d, o', lD, rfl, .head _, e1, e2, cD, z1, z2, z3, z4, by k_mem, f1.mono fun a o q => (show ∀ p ∈ tl8, p ∈ _ by walk_at "QZ sl'") _ q, f2.mono fun a o q => (show ∀ p ∈ tl8, p ∈ _ by walk_at "QZ sl'") _ q, f3.mono fun a o q => (show ∀ p ∈ tl8, p ∈ _ by walk_at "QZ sl'") _ q, f4.mono fun a o q => (show ∀ p ∈ tl8, p ∈ _ by walk_at "QZ sl'") _ q⟩
end
end


-- QzF17

section
open PyProof.Rows.LCg PyProof.Rows.LCp


theorem nm_skip {x y : Str} {u v : Value} {r : Option Value} (h : x ≠ y) (e : r = some v) : (if x = y then some u else r) = some v := by rw [if_neg h]; exact e
/-- between the turns of the loops that fill nA -/
def LoopJ (P : Params) (nA : Addr) (rest restF : List (Addr × Obj)) (fs : Nat → Int) (ms : List (Str × Value)) (c : Nat) (m : Str → Option Value) (nw : List (Addr × Obj)) : Prop :=
  ∃ vals e t, nw = (nA, W.listOf (List.toArray vals) e) :: (t ++ rest) ∧ vals.length = c ∧ (∀ j v, vals[j]? = some v → DecG P (In (t ++ restF)) v (fs j)) ∧ (∀ x ∈ ms, m x.1 = some x.2) ∧ (∀ p ∈ t ++ rest, p.1 ≠ nA) ∧ OffN t rest
theorem LoopJ.zero {P : Params} {nA : Addr} {rest restF : List (Addr × Obj)} {fs : Nat → Int} {ms : List (Str × Value)} {m : Str → Option Value} {vals : List Value} {e c : Nat} (hl : vals.length = c) (h1 : ∀ j v, vals[j]? = some v → DecG P (In restF) v (fs j)) (h2 : ∀ x ∈ ms, m x.1 = some x.2) (h3 : ∀ p ∈ rest, p.1 ≠ nA) :
    LoopJ P nA rest restF fs ms c m ((nA, W.listOf vals.toArray e) :: rest) := ⟨vals, e, [], rfl, hl, h1, h2, h3, fun _ h => nomatch h⟩
theorem gi_ne {G : Addr → Obj → Prop} {g h : Heap} {L nA a : Addr} {o oA : Obj} {tl rest : List (Addr × Obj)} (hG : ∀ a o, G a o → g.get? a = some o) (N : News g L h ((nA, oA) :: rest)) (hr : ∀ p ∈ rest, p.1 ≠ nA) (s : ∀ p ∈ tl, p ∈ rest) (q : GI G tl a o) : a ≠ nA := fun e => by
  subst e
  rcases q with q | q
  · have := (N _ (.head _)).2.2
    rw [show ((a, oA) : Addr × Obj).1 = a from rfl, hG _ _ q] at this; cases this
  · exact hr _ (s _ q) rfl
theorem ms4 {m : Str → Option Value} {a b c d : Str × Value} (h1 : m a.1 = some a.2) (h2 : m b.1 = some b.2) (h3 : m c.1 = some c.2) (h4 : m d.1 = some d.2) : ∀ x ∈ [a, b, c, d], m x.1 = some x.2 := fun x hx => by
  simp only [List.mem_cons, List.not_mem_nil, or_false] at hx
  rcases hx with rfl | rfl | rfl | rfl <;> assumption
theorem LoopJ.zero4 {P : Params} {nA : Addr} {rest restF : List (Addr × Obj)} {fs : Nat → Int} {k1 k2 k3 k4 : Str} {u1 u2 u3 u4 : Value} {m : Str → Option Value} {vals : List Value} {e c : Nat} (hl : vals.length = c) (h1 : ∀ j v, vals[j]? = some v → DecG P (In restF) v (fs j))
    (a1 : m k1 = some u1) (a2 : m k2 = some u2) (a3 : m k3 = some u3) (a4 : m k4 = some u4) (h3 : ∀ p ∈ rest, p.1 ≠ nA) : LoopJ P nA rest restF fs [(k1, u1), (k2, u2), (k3, u3), (k4, u4)] c m ((nA, W.listOf vals.toArray e) :: rest) := .zero hl h1 (ms4 a1 a2 a3 a4) h3
theorem LoopJ.mk4 {P : Params} {nA : Addr} {rest restF t : List (Addr × Obj)} {fs : Nat → Int} {k1 k2 k3 k4 : Str} {u1 u2 u3 u4 : Value} {m : Str → Option Value} {vals : List Value} {e c : Nat} (hl : vals.length = c) (h1 : ∀ j v, vals[j]? = some v → DecG P (In (t ++ restF)) v (fs j))
    (a1 : m k1 = some u1) (a2 : m k2 = some u2) (a3 : m k3 = some u3) (a4 : m k4 = some u4) (h3 : ∀ p ∈ t ++ rest, p.1 ≠ nA) (ho : OffN t rest) : LoopJ P nA rest restF fs [(k1, u1), (k2, u2), (k3, u3), (k4, u4)] c m ((nA, W.listOf vals.toArray e) :: (t ++ rest)) := ⟨vals, e, t, rfl, hl, h1, ms4 a1 a2 a3 a4, h3, ho⟩
theorem ne_len {prog : Program} {w : World} {A : Around} {E : Value → Shared → Prop} {Q : Value → Shared → Prop} {s : Shared} {l b : Addr} {vals : List Value} {c k : Nat} {its : Array Value} (hl : s.heap.IsList l vals.toArray) (hb : s.heap.IsList b its) (h0 : its.size = 0) (hz : vals.length = c * k) (hc : c ≠ 0) (hk : k = 1 ∨ k = 2) (hu : A.units < cLine) (h : Q (.bool true) s) :
    wpAny (model prog w) A (compareOp .NotEq (.ref l) (.ref b)) Q E s := PySem.SeqAt.RcNeAt.lists_lengths hl hb (by rw [h0, List.size_toArray, hz]; simp only [bne_iff_ne, ne_eq]; rcases hk with rfl | rfl <;> omega) hu prog w E Q h
theorem keepQ2 {h₀ h : Heap} {L : Addr} {a : Addr × Obj} {tq ow r : List (Addr × Obj)} (N : News h₀ L h (tq ++ (ow ++ a :: r))) : News h₀ L h (a :: (tq ++ (ow ++ r))) := fun p hp => N p (by
  simp only [List.mem_cons, List.mem_append] at hp ⊢
  rcases hp with h | h | h | h <;> simp [h])
theorem backQ {h₀ h : Heap} {L : Addr} {a : Addr × Obj} {tq ow t r : List (Addr × Obj)} (N : News h₀ L h (a :: (tq ++ (ow ++ (t ++ r))))) : News h₀ L h (ow ++ (a :: ((tq ++ t) ++ r))) := fun p hp => N p (by
  simp only [List.mem_cons, List.mem_append] at hp ⊢
  rcases hp with h | h | (h | h) | h <;> simp [h])
theorem keepQ {h₀ h : Heap} {L : Addr} {a : Addr × Obj} {tq r : List (Addr × Obj)} (N : News h₀ L h (tq ++ a :: r)) : News h₀ L h (a :: (tq ++ r)) := fun p hp => N p (by
  simp only [List.mem_cons, List.mem_append] at hp ⊢
  rcases hp with h | h | h <;> simp [h])
theorem keepQn {a : Addr × Obj} {tq r : List (Addr × Obj)} (l : ∀ q ∈ tq, ∀ p ∈ a :: r, p.1 ≠ q.1) (l1 : AllLt a.1 r) : ∀ p ∈ tq ++ r, p.1 ≠ a.1 := fun p hp => by
  rcases List.mem_append.mp hp with h | h
  · exact Ne.symm (l p h a (.head _))
  · exact Nat.ne_of_lt (ktn_ltOf l1 p h)
theorem two_snoc {P : Params} {G : Addr → Obj → Prop} {fs : Nat → Int} {vals : List Value} {c : Nat} {a b : Value} (hl : vals.length = c) (h : ∀ j v, vals[j]? = some v → DecG P G v (fs j)) (ha : DecG P G a (fs c)) (hb : DecG P G b (fs (c + 1))) : ∀ j v, (vals ++ [a, b])[j]? = some v → DecG P G v (fs j) := by
  intro j v hv
  by_cases h1 : j < vals.length
  · rw [List.getElem?_append_left h1] at hv; exact h j v hv
  · rw [List.getElem?_append_right (Nat.le_of_not_lt h1)] at hv
    obtain ⟨d, hd⟩ : ∃ d, j = vals.length + d := ⟨j - vals.length, by omega⟩
    subst hd
    rw [Nat.add_sub_cancel_left] at hv
    match d, hv with
    | 0, hv => cases hv; rw [Nat.add_zero, hl]; exact ha
    | 1, hv => cases hv; rw [hl]; exact hb
theorem mvq_even {na nb nc nd ne nf : Int} {ns : Nat → Int} {i j : Nat} : mvq na nb nc nd ne nf ns (8 * i + 2 * j) = na * ns (8 * i + 2 * j) + nc * ns (8 * i + (2 * j + 1)) + ne := by
  unfold mvq; rw [if_pos (by omega)]; rfl
theorem mvq_odd {na nb nc nd ne nf : Int} {ns : Nat → Int} {i j : Nat} : mvq na nb nc nd ne nf ns (8 * i + 2 * j + 1) = nb * ns (8 * i + 2 * j) + nd * ns (8 * i + (2 * j + 1)) + nf := by
  unfold mvq; rw [if_neg (by omega)]; rfl
local macro_rules | `(tactic| walk_at "QZ nm") => `(tactic| first | exact rfl | (repeat (first | assumption | refine nm_skip (by decide) ?_)))
local macro_rules | `(tactic| walk_at "eval Name") => `(tactic| (k_here; k_dflt (refine' ld ?k1 ?k2 ?_; (case k1 => k_asm); (case k2 => walk_at "QZ nm"); k_whole)))
section
variable {prog : Program} {w : World} {p : Program} {loose : List Str} {mean : ExcName → Option Value} {mg mb : Str → Option Value} {g : Heap}

local macro_rules | `(tactic| walk_at "call ref") => `(tactic| (k_here; (with_reducible show wpAny _ _ (call (Value.ref 229) _) _ _ _); refine stop9 ?_))
local macro_rules | `(tactic| walk_at "compareOp NotEq ref ref") => `(tactic| (k_here; (with_reducible show wpAny _ _ (compareOp CmpOp.NotEq (Value.ref _) (Value.ref _)) _ _ _); refine ne_len (News.isList (by k_asm) (by k_mem)) (News.isList (by k_asm) (by k_mem)) rfl (by assumption) (by decide) (by assumption) (by ke_room) ?_))
local macro_rules | `(tactic| walk_at "call builtin:list.extend") => `(tactic| (k_here; refine stop9 ?_))

set_option maxHeartbeats 8000000 in
theorem c_moved4 {sv : Value} (hS : ShelfG w.params (At g) sv) {r c q : Addr} {t : Tok} {v1 v2 v3 v4 : Value} {n1 n2 n3 n4 : Int} {ha : Addr} {o : Obj} (ho : g.get? ha = some o) (hkv : o.IsDictOf (strKind prog w) (hd4 r t c q)) (lo : (ha == sysModules) = false) {G : Addr → Obj → Prop} (hG : ∀ a o, G a o → g.get? a = some o) (hl : g.IsList r #[v1, v2, v3, v4]) (k1 : NumG w.params G v1 n1) (k2 : NumG w.params G v2 n2) (k3 : NumG w.params G v3 n3) (k4 : NumG w.params G v4 n4) (m1 : Sm n1) (m2 : Sm n2) (m3 : Sm n3) (m4 : Sm n4) {u : Value} {na nb nc nd ne nf : Int} (hM : MatG w.params (At g) u na nb nc nd ne nf) {vs : List Value} {k : Nat} {ns : Nat → Int} (hlq : g.IsList q vs.toArray) (hk12 : k = 1 ∨ k = 2) (hlen : vs.toArray.size = 8 * k) (hns : ∀ i v, vs.toArray[i]? = some v → NumG w.params G v (ns i)) (hsm : ∀ i, Sm (ns i))  : Pu prog w p loose mean mg mb 120 (.ref 478) [sv, .ref ha, u] g (fun tl v => ∃ d o' l q' e vals, v = .ref d ∧ (d, o') ∈ tl ∧ (d == sysModules) = false ∧ o'.IsDictOf (strKind prog w) (hd4 l t c q') ∧ MovR w.params (In tl) l (bxl (na * min n1 n3 + nc * min n2 n4 + ne) (na * max n1 n3 + nc * min n2 n4 + ne) (na * max n1 n3 + nc * max n2 n4 + ne) (na * min n1 n3 + nc * max n2 n4 + ne)) (bxl (nb * min n1 n3 + nd * min n2 n4 + nf) (nb * max n1 n3 + nd * min n2 n4 + nf) (nb * max n1 n3 + nd * max n2 n4 + nf) (nb * min n1 n3 + nd * max n2 n4 + nf)) (bxh (na * min n1 n3 + nc * min n2 n4 + ne) (na * max n1 n3 + nc * min n2 n4 + ne) (na * max n1 n3 + nc * max n2 n4 + ne) (na * min n1 n3 + nc * max n2 n4 + ne)) (bxh (nb * min n1 n3 + nd * min n2 n4 + nf) (nb * max n1 n3 + nd * min n2 n4 + nf) (nb * max n1 n3 + nd * max n2 n4 + nf) (nb * min n1 n3 + nd * max n2 n4 + nf)) ∧ (q', W.listOf (List.toArray vals) e) ∈ tl ∧ vals.length = 8 * k ∧ ∀ j v, vals[j]? = some v → DecG w.params (In tl) v (mvq na nb nc nd ne nf ns j)) := by
  have hS0 := hS
  refine ShelfG.rawC hS0 ?_
  intro xS dS tS1 tS2 uS1 uS2 e9r66 gS1 gS2
  subst e9r66
  have hM0 := hM
  refine MatG.el (hM0) ?_
  try clear hM0
  intro xM dxM vM1 vM2 vM3 vM4 vM5 vM6 tM1 tM2 tM3 tM4 tM5 tM6 eM gxM gdM gM1 gM2 gM3 gM4 gM5 gM6
  subst eM
  replace gxM := At.raw gxM
  replace gdM := At.raw gdM
  intro dp un gd cn cs a ccd cl outer A₀ base h₀ L m gens drawn toks os Q E B F X T hk hd hu hret
  refine wpAny_call ?_
  k_dflt (refine' enterP (binds := [(Str.ofString "shelf", .ref xS), (Str.ofString "head", .ref ha), (Str.ofString "m", .ref xM)]) ?k1 ?k2 ?k3 ?k5 ?kA ?kF ?kK ?k6 ?k7 ?k8 ?k9 ?kB ?_ ?c2 ?c3 ?c4 ?c5)
  walk_at "QZ enter1"
  intro L' h' F' B' X' T'
  have N' := News.nil (h₀ := g) (h := h') (L := L')
  dsimp only at F' B' X' T'
  clear B F X T
  show wpAny _ _ _ _ _ _
  k_fold
  k_steps
  refine .go ?_
  (refine' usePu (c_rect (G := G) (hS := ShelfG.base (by k_asm) hS) (fr_get (by k_asm) ho) hkv lo (hG_base (by k_asm) hG) (r := r) rfl (Fr.lst (by k_asm) hl) k1 k2 k3 k4) ?q1 ?q2 ?q3 ?q4 ?q5 ?q6 ?q7 ?q8 ?_; walk_at "QZ use")
  intro v9 h9 tk9 tl9 o9 F9 N9 l9
  refine BoxG.el (o9) ?_
  try clear o9
  intro t1 w1 w2 w3 w4 e9r67 ht1 e1 e2 e3 e4
  subst e9r67
  replace N9 := keepA N9
  clear l9
  k_sweep
  k_steps
  refine .go ?_
  have hGI9 := hGI hG (by k_asm) (by k_asm) (show ∀ p ∈ tl9, p ∈ _ by walk_at "QZ sl")
  (refine' usePu (c_transformed_box ⟨_, hGI9 _ _ ht1, rfl, _, rfl⟩ (e1.mono hGI9) (e2.mono hGI9) (e3.mono hGI9) (e4.mono hGI9) (MatG.base (by k_asm) hM) (sm_min m1 m3) (sm_min m2 m4) (sm_max m1 m3) (sm_max m2 m4)) ?q1 ?q2 ?q3 ?q4 ?q5 ?q6 ?q7 ?q8 ?_; walk_at "QZ use")
  intro v9 h9 tk9 tl8 o9 F9 N9 l9
  refine BoxG.el (o9) ?_
  try clear o9
  intro t2 z1 z2 z3 z4 e9r68 ht2 f1 f2 f3 f4
  subst e9r68
  replace N9 := keepA N9
  replace l9 := keepO l9
  clear hGI9 ht1 e1 e2 e3 e4
  k_sweep
  k_steps
  refine .go ?_
  refine kup_listOfT (by k_asm) N9 (.tail _ ht2) (zs := [z1, z2, z3, z4]) rfl ?_ (Nat.le_of_ble_eq_true rfl)
  intro lD cD h7 F7 N7 l7
  replace l9 := keepN (x := (lD, W.listOf [z1, z2, z3, z4].toArray cD)) l9 l7
  replace N7 := keepL N7
  clear l7
  k_sweep
  k_steps
  refine .go ?_
  with_unfolding_all refine' For_turns (by k_asm) ?_
  k_steps
  refine .go ?_
  (refine' usePu (c_quads (ns := ns) (G := G) (k := k) (vs := vs) (ShelfG.base (by k_asm) hS) (fr_get (by k_asm) ho) hkv lo (hG_base (by k_asm) hG) rfl (Fr.lst (by k_asm) hlq) hk12 hlen hns) ?q1 ?q2 ?q3 ?q4 ?q5 ?q6 ?q7 ?q8 ?_; walk_at "QZ use")
  intro v9 h9 tk9 tlq o9 F9 N9 lq
  refine ex3 o9 ?_
  try clear o9
  intro lq1 qs nq zz9
  refine and4 zz9 ?_
  try clear zz9
  intro e9r69 hq1 hql hqa
  subst e9r69
  have hql9 : Heap.IsList h9 lq1 qs.toArray := ⟨_, hGI hG (by k_asm) N9 (fun p hp => List.mem_append.mpr (.inl hp)) _ _ hq1, rfl, _, rfl⟩
  have hnA := keepQn lq (by assumption)
  have hoffq := lq
  replace N9 := keepQ N9
  have hlqA := gi_ne hG N9 hnA (fun p hp => List.mem_append.mpr (.inl hp)) hq1
  clear lq hq1
  k_sweep
  k_steps
  refine .go ?_
  rename Obj.IsDictOf _ _ (strPairs _) => hch
  rename_i tkx dC hx4 oC0 loC hdC0 lx h9a tk9a h9b tk9b hx3 oC hx2 tky nA hx1 lAll hx0
  clear hdC0
  have hdCn : ∀ p ∈ tlq ++ (lD, W.listOf #[z1, z2, z3, z4] cD) :: tl8, p.1 ≠ dC := fun p hp => (List.mem_append.mp hp).elim (fun h => Ne.symm (hoffq p h (dC, oC) (.tail _ (.head _)))) fun h => l9 p h
  clear lx hoffq
  have dCm : (dC, oC) ∈ tlq ++ (dC, oC) :: (lD, W.listOf #[z1, z2, z3, z4] cD) :: tl8 := List.mem_append.mpr (.inr (.head _))
  have lDm : (lD, W.listOf #[z1, z2, z3, z4] cD) ∈ tlq ++ (dC, oC) :: (lD, W.listOf #[z1, z2, z3, z4] cD) :: tl8 := List.mem_append.mpr (.inr (.tail _ (.head _)))
  have tq : ∀ p ∈ tlq, p ∈ tlq ++ (dC, oC) :: (lD, W.listOf #[z1, z2, z3, z4] cD) :: tl8 := fun p hp => List.mem_append.mpr (.inl hp)
  have t8 : ∀ p ∈ tl8, p ∈ tlq ++ (dC, oC) :: (lD, W.listOf #[z1, z2, z3, z4] cD) :: tl8 := fun p hp => List.mem_append.mpr (.inr (.tail _ (.tail _ hp)))
  generalize hr0 : tlq ++ (dC, oC) :: (lD, W.listOf #[z1, z2, z3, z4] cD) :: tl8 = rest0 at *
  refine iter_inv (fun i => LoopJ w.params nA rest0 [] (mvq na nb nc nd ne nf ns) [(Str.ofString "numbers", .ref nA), (Str.ofString "m", .ref xM), (Str.ofString "changes", .ref dC), (Str.ofString "head", .ref ha)] (8 * i)) rfl (by k_asm) N9 hql9 (L_ne (by k_asm) hql9) ?j0 ?step ?fin
  case j0 => exact LoopJ.zero4 (vals := []) rfl (fun j v h => by simp at h) rfl rfl rfl rfl hnA
  case step =>
    intro I i v m₁ nw h₁ tk₁ own hv hJ hown hI hnwI _ F₁ N₁
    refine ex3 hJ ?_
    try clear hJ
    intro vals e t zz9
    refine and6 zz9 ?_
    try clear zz9
    intro e9r70 hvl hvd hms hnt hoff
    subst e9r70
    have hQ := hqa i v (by simpa using hv)
    refine ex3 hQ ?_
    try clear hQ
    intro q1 ps nq1 zz9
    refine and4 zz9 ?_
    try clear zz9
    intro e9r71 hq1 hpl hpp
    subst e9r71
    have hn1 := hms _ (.head _)
    have hn2 := hms _ (.tail _ (.head _))
    have hn3 := hms _ (.tail _ (.tail _ (.head _)))
    have hn4 := hms _ (.tail _ (.tail _ (.tail _ (.head _))))
    dsimp only at hn1 hn2 hn3 hn4
    clear hms
    have hGr := hGI hG F₁ N₁ (show ∀ p ∈ tlq, p ∈ _ from fun p hp => List.mem_append.mpr (.inr (.tail _ (List.mem_append.mpr (.inr (tq p hp))))))
    have hql1 : h₁.IsList q1 ps.toArray := ⟨_, hGr _ _ hq1, rfl, _, rfl⟩
    have hi2 : i < 2 := by
      have := (Array.getElem?_eq_some_iff.mp hv).1
      simp at this; omega
    have hq1A := gi_ne hG (keepQ N₁) (fun p hp => (List.mem_append.mp hp).elim (fun h => (hown p h).elim (fun e => by rw [e]; exact Ne.symm (hnwI _ (.head _))) fun e => by rw [e]; exact hlqA) (hnt p)) (tl := tlq) (fun p hp => List.mem_append.mpr (.inr (List.mem_append.mpr (.inr (tq p hp))))) hq1
    have hne1 : ∀ p ∈ own ++ (t ++ rest0), p.1 ≠ nA := fun p hp => (List.mem_append.mp hp).elim (fun h => (hown p h).elim (fun e => by rw [e]; exact Ne.symm (hnwI _ (.head _))) fun e => by rw [e]; exact hlqA) (hnt p)
    k_sweep
    k_steps
    refine .go ?_
    with_unfolding_all refine' For_turns (by k_asm) ?_
    k_steps
    refine .go ?_
    rename News _ _ _ _ => N2
    replace N2 := keepQ N2
    rename_i hx2 F2
    have tq1 : ∀ p ∈ tlq, p ∈ own ++ (t ++ rest0) := fun p hp => List.mem_append.mpr (.inr (List.mem_append.mpr (.inr (tq p hp))))
    have hql2 := (show ∀ a o, GI G tlq a o → hx2.get? a = some o from hGI hG F2 N2 (fun p hp => .tail _ (tq1 p hp))) _ _ hq1
    have hql3 : hx2.IsList q1 ps.toArray := ⟨_, hql2, rfl, _, rfl⟩
    refine iter_inv (fun j => LoopJ w.params nA (own ++ (t ++ rest0)) (t ++ []) (mvq na nb nc nd ne nf ns) [(Str.ofString "numbers", .ref nA), (Str.ofString "m", .ref xM), (Str.ofString "changes", .ref dC), (Str.ofString "head", .ref ha)] (8 * i + 2 * j)) rfl F2 N2 hql3 (L_ne F2 hql3) ?j02 ?step2 ?fin2
    case j02 => exact LoopJ.zero4 (by rw [hvl]; rfl) hvd (nm_skip (by decide) hn1) (nm_skip (by decide) hn2) (nm_skip (by decide) hn3) (nm_skip (by decide) hn4) hne1
    case step2 =>
      clear hn1 hn2 hn3 hn4 hvd
      intro I2 j v2 m₂ nw2 h₂ tk₂ own2 hv2 hJ2 hown2 hI2 hnwI2 _ F₂ N₂
      refine ex3 hJ2 ?_
      try clear hJ2
      intro vals2 e2 t2' zz9
      refine and6 zz9 ?_
      try clear zz9
      intro e9r72 hvl2 hvd2 hms2 hnt2 hoff2
      subst e9r72
      refine ex3 (hpp j v2 (by simpa using hv2)) ?_
      intro qp a1 b1 zz9
      refine and4 zz9 ?_
      try clear zz9
      intro e9r73 hqp da db
      subst e9r73
      have hj4 : j < 4 := by
        have := (Array.getElem?_eq_some_iff.mp hv2).1
        simp at this; omega
      have hn1 := hms2 _ (.head _)
      have hn2 := hms2 _ (.tail _ (.head _))
      have hn3 := hms2 _ (.tail _ (.tail _ (.head _)))
      have hn4 := hms2 _ (.tail _ (.tail _ (.tail _ (.head _))))
      dsimp only at hn1 hn2 hn3 hn4
      clear hms2
      have tq2 : ∀ p ∈ tlq, p ∈ own2 ++ (nA, W.listOf vals2.toArray e2) :: (t2' ++ (own ++ (t ++ rest0))) := fun p hp => List.mem_append.mpr (.inr (.tail _ (List.mem_append.mpr (.inr (tq1 p hp)))))
      have hT : IsTup h₂ qp #[a1, b1] := ⟨_, hGI hG F₂ N₂ tq2 _ _ hqp, rfl, _, rfl⟩
      k_sweep
      k_steps
      refine .go ?_
      have hGr3 := hGI hG (by k_asm) (by k_asm) tq2
      (refine' usePu (c_applied (MatG.base (by k_asm) hM) (da.mono hGr3) (db.mono hGr3) (hsm _) (hsm _)) ?q1 ?q2 ?q3 ?q4 ?q5 ?q6 ?q7 ?q8 ?_; walk_at "QZ use")
      intro v9 h9 tk9 tla o9 F9 N9 l9
      refine ex3 (pair_kn o9 (fun _ h => h)) ?_
      intro t3 a3 b3 zz9
      refine and4 zz9 ?_
      try clear zz9
      intro e9r74 hm3 d3 e3
      subst e9r74
      clear hGr3 da db o9
      k_sweep
      k_steps
      refine .go ?_
      have N10 := keepQ2 N9
      refine ex1 hI2 ?_
      try clear hI2
      intro oI2 hI2m
      have hnAI2 : nA ≠ I2 := hnwI2 (nA, _) (.head _)
      have hne10 : ∀ p ∈ tla ++ (own2 ++ (t2' ++ (own ++ (t ++ rest0)))), p.1 ≠ nA := fun p hp => (List.mem_append.mp hp).elim (fun h => Ne.symm (l9 p h (nA, _) (List.mem_append.mpr (.inr (.head _))))) fun h => (List.mem_append.mp h).elim (fun h => (hown2 p h).elim (fun e => by rw [e]; exact Ne.symm hnAI2) fun e => by rw [e]; exact hq1A) (hnt2 p)
      have hoffI : ∀ q ∈ tla, q.1 ≠ I2 := fun q hq => Ne.symm (l9 q hq _ (List.mem_append.mpr (.inl hI2m)))
      have hoffR : OffN tla (own ++ (t ++ rest0)) := fun q hq p hp => l9 q hq p (List.mem_append.mpr (.inr (.tail _ (List.mem_append.mpr (.inr hp)))))
      have hsz2 : vals2.toArray.size + 2 ≤ sizeLine := by rw [sizeLine_eq, List.size_toArray, hvl2]; omega
      refine kup_extend (its := vals2.toArray) (its2 := #[a3, b3]) (by k_asm) N10 (.tail _ (List.mem_append.mpr (.inl hm3))) (show _ = vals2 ++ [a3, b3] by simp) (by simp) (Upd.head hne10) (extend_door hsz2) (by simpa using Nat.le_trans (Nat.le_add_right _ 2) hsz2) (Nat.le_succ_of_le hsz2) ?_
      intro h6 F6 N6
      clear N9 N10 l9
      k_sweep
      k_steps
      refine .go ?_
      have hJn : LoopJ w.params nA (own ++ (t ++ rest0)) (t ++ []) (mvq na nb nc nd ne nf ns) [(Str.ofString "numbers", .ref nA), (Str.ofString "m", .ref xM), (Str.ofString "changes", .ref dC), (Str.ofString "head", .ref ha)] (8 * i + 2 * (j + 1)) (fun y => if y = Str.ofString "y" then some b1 else if y = Str.ofString "x" then some a1 else m₂ y) ((nA, W.listOf (vals2 ++ [a3, b3]).toArray (e2 + 1)) :: ((tla ++ t2') ++ (own ++ (t ++ rest0)))) := by
        refine LoopJ.mk4 (by simp [hvl2]; omega) (two_snoc hvl2 (fun j v h => (hvd2 j v h).mono fun a o q => ?_) ?_ ?_) (nm_skip (by decide) (nm_skip (by decide) hn1)) (nm_skip (by decide) (nm_skip (by decide) hn2)) (nm_skip (by decide) (nm_skip (by decide) hn3)) (nm_skip (by decide) (nm_skip (by decide) hn4)) (fun p hp => ?_) ?_
        · exact (List.append_assoc tla t2' (t ++ [])) ▸ List.mem_append.mpr (.inr q)
        · exact mvq_even ▸ d3.mono fun a o q => List.mem_append.mpr (.inl (List.mem_append.mpr (.inl q)))
        · exact mvq_odd ▸ e3.mono fun a o q => List.mem_append.mpr (.inl (List.mem_append.mpr (.inl q)))
        · simp only [List.mem_append] at hp
          refine hne10 p ?_
          simp only [List.mem_append]
          rcases hp with (h | h) | h | h | h <;> simp [h]
        · intro q hq p hp
          exact (List.mem_append.mp hq).elim (fun h => hoffR q h p hp) (fun h => hoff2 q h p hp)
      refine LoopStepU.intro F6 (backQ N6) (fun p hp => ?_) hJn
      intro hm
      have hm := List.mem_singleton.mp hm
      rcases List.mem_cons.mp hp with rfl | hp
      · exact hnAI2 hm
      · simp only [List.mem_append] at hp
        rcases hp with (h | h) | h
        · exact hoffI p h hm
        · exact hnwI2 p (.tail _ (List.mem_append.mpr (.inl h))) hm
        · exact hnwI2 p (.tail _ (List.mem_append.mpr (.inr (by simpa using h)))) hm
    case fin2 =>
      intro h5 tk5 m5 nw5 F5 N5 hJ5
      refine ex3 hJ5 ?_
      try clear hJ5
      intro vals3 e3 t3' zz9
      refine and6 zz9 ?_
      try clear zz9
      intro e9r75 hvl3 hvd3 hms3 hnt3 hoff3
      subst e9r75
      have hn1 := hms3 _ (.head _)
      have hn2 := hms3 _ (.tail _ (.head _))
      have hn3 := hms3 _ (.tail _ (.tail _ (.head _)))
      have hn4 := hms3 _ (.tail _ (.tail _ (.tail _ (.head _))))
      dsimp only at hn1 hn2 hn3 hn4
      k_steps
      refine .go ?_
      have hJn : LoopJ w.params nA rest0 [] (mvq na nb nc nd ne nf ns) [(Str.ofString "numbers", .ref nA), (Str.ofString "m", .ref xM), (Str.ofString "changes", .ref dC), (Str.ofString "head", .ref ha)] (8 * (i + 1)) m5 ((nA, W.listOf vals3.toArray e3) :: ((t3' ++ t) ++ rest0)) := by
        refine LoopJ.mk4 (by rw [hvl3, List.size_toArray, hpl]; omega) (fun j v h => (hvd3 j v h).mono fun a o q => ?_) hn1 hn2 hn3 hn4 (fun p hp => ?_) ?_
        · exact (List.append_assoc t3' t []) ▸ q
        · simp only [List.mem_append] at hp
          refine hnt3 p ?_
          simp only [List.mem_append]
          rcases hp with (h | h) | h <;> simp [h]
        · intro q hq p hp
          exact (List.mem_append.mp hq).elim (fun h => hoff3 q h p (List.mem_append.mpr (.inr (List.mem_append.mpr (.inr hp))))) (fun h => hoff q h p hp)
      refine LoopStepU.intro F5 (backQ N5) (fun p hp => ?_) hJn
      refine ex1 hI ?_
      try clear hI
      intro oI hIm
      intro hm
      have hm := List.mem_singleton.mp hm
      rcases List.mem_cons.mp hp with rfl | hp
      · exact hnwI _ (.head _) hm
      · simp only [List.mem_append] at hp
        rcases hp with (h | h) | h
        · exact hoff3 p h (I, oI) (List.mem_append.mpr (.inl hIm)) hm.symm
        · exact hnwI p (.tail _ (List.mem_append.mpr (.inl h))) hm
        · exact hnwI p (.tail _ (List.mem_append.mpr (.inr h))) hm
  case fin =>
    intro h5 tk5 m5 nw5 F5 N5 hJ5
    refine ex3 hJ5 ?_
    try clear hJ5
    intro vals3 e3 t3' zz9
    refine and6 zz9 ?_
    try clear zz9
    intro e9r76 hvl3 hvd3 hms3 hnt3 hoff3
    subst e9r76
    have hn1 := hms3 _ (.head _)
    have hn2 := hms3 _ (.tail _ (.head _))
    have hn3 := hms3 _ (.tail _ (.tail _ (.head _)))
    have hn4 := hms3 _ (.tail _ (.tail _ (.tail _ (.head _))))
    dsimp only at hn1 hn2 hn3 hn4
    clear hms3
    k_sweep
    have hvl4 : vals3.length = 8 * k := by rw [hvl3, List.size_toArray, hql]
    k_steps
    subst hr0
    have hdN : ∀ p ∈ (nA, W.listOf vals3.toArray e3) :: (lD, W.listOf #[z1, z2, z3, z4] cD) :: (t3' ++ (tlq ++ tl8)), p.1 ≠ dC := fun p hp => by
      simp only [List.mem_cons, List.mem_append] at hp
      rcases hp with rfl | rfl | h | h | h
      · exact Ne.symm (hnA _ dCm)
      · exact hdCn _ (List.mem_append.mpr (.inr (.head _)))
      · exact Ne.symm (hoff3 p h _ dCm)
      · exact hdCn _ (List.mem_append.mpr (.inl h))
      · exact hdCn _ (List.mem_append.mpr (.inr (.tail _ h)))
    rename News _ _ _ _ => NN0
    have NN : News _ _ _ ((dC, oC) :: (nA, W.listOf vals3.toArray e3) :: (lD, W.listOf #[z1, z2, z3, z4] cD) :: (t3' ++ (tlq ++ tl8))) := fun p hp => NN0 p (by
      simp only [List.mem_cons, List.mem_append] at hp ⊢
      rcases hp with h | h | h | h | h | h <;> simp [h])
    refine kda_set (knd := PySem.strKind _ _) (by k_asm) NN (UpdF.head hdN) hch (strKind_is _ _ _ _) (by rw [sizeLine_eq]; exact Nat.le_of_ble_eq_true rfl) ?_
    intro h6 oC6 F6 N6 hch6
    have hch7 : oC6.IsDictOf (strKind prog w) (ch2 lD nA) := by with_unfolding_all exact hch6
    clear hch6 NN NN0 hch dCm lDm tq t8
    k_steps
    refine .go ?_
    (refine' usePuN (c_turned4 (l := lD) (q' := nA) (fr_get (by k_asm) ho) hkv lo hch7 (by assumption) ?hne) ?hs ?q1 ?q2 ?q3 ?q4 ?q5 ?q6 ?q7 ?q8 ?_; (case hne => exact ne_base ho (by k_asm) (.head _)); walk_at "QZ use"; (case hs => walk_at "QZ sub"))
    intro v9 h9 tk9 tl9 o9 F9 N9 l9
    refine ex2 o9 ?_
    try clear o9
    intro d o' zz9
    refine and4 zz9 ?_
    try clear zz9
    intro e9r77 e9r78 e1 e2
    subst e9r77
    subst e9r78
    refine hret _ _ _ _ (by walk_at "QZ ext") (newIn_of N9 (fun _ h => h)) ⟨d, o', lD, nA, e3, vals3, rfl, .head _, e1, e2, ⟨cD, z1, z2, z3, z4, ?_, f1.mono fun a o q => ?_, f2.mono fun a o q => ?_, f3.mono fun a o q => ?_, f4.mono fun a o q => ?_⟩, ?_, hvl4, fun j v h => (hvd3 j v h).mono fun a o q => ?_⟩
    · exact .tail _ (.tail _ (.tail _ (.head _)))
    · exact .tail _ (.tail _ (.tail _ (.tail _ (List.mem_append.mpr (.inr (List.mem_append.mpr (.inr q)))))))
    · exact .tail _ (.tail _ (.tail _ (.tail _ (List.mem_append.mpr (.inr (List.mem_append.mpr (.inr q)))))))
    · exact .tail _ (.tail _ (.tail _ (.tail _ (List.mem_append.mpr (.inr (List.mem_append.mpr (.inr q)))))))
    · exact .tail _ (.tail _ (.tail _ (.tail _ (List.mem_append.mpr (.inr (List.mem_append.mpr (.inr q)))))))
    · exact .tail _ (.tail _ (.head _))
    · exact .tail _ (.tail _ (.tail _ (.tail _ (List.mem_append.mpr (.inl (List.append_nil t3' ▸ q))))))
end
end


-- QzF18

section
open PyProof.Rows.LCg PyProof.Rows.LCp

theorem mod_eq2 {prog : Program} {w : World} {A : Around} {E : Value → Shared → Prop} {Q : Value → Shared → Prop} {s : Shared} {a b r : Int} {t u : Tok} (hb : b ≠ 0) (e : Int.fmod a b = r) (h : Q (.int r s.toks) { s with toks := s.toks + 1 }) : wpAny (model prog w) A (binaryOp .Mod (.int a t) (.int b u)) Q E s :=
  PyProof.Rows.mod_int' hb (by rw [e]; exact h)

section
variable {prog : Program} {w : World} {p : Program} {loose : List Str} {mean : ExcName → Option Value} {mg mb : Str → Option Value} {g : Heap}
local macro_rules | `(tactic| walk_at "binaryOp Mod int int") => `(tactic| (refine mod_eq2 (by decide) (by with_reducible assumption) ?_))

set_option maxHeartbeats 8000000 in
theorem c_quarter0 {n : Int} {t : Tok} (hr : Int.fmod n 4 = 0) : Pu prog w p loose mean mg mb 24 (.ref 276) [.int n t] g (fun tl v => MatG w.params (In tl) v (1) (0) (0) (1) 0 0) := by
  intro dp un gd cn cs a ccd cl outer A₀ base h₀ L m gens drawn toks os Q E B F X T hk hd hu hret
  refine wpAny_call ?_
  k_dflt (refine' enterP (binds := [(Str.ofString "n", .int n t)]) ?k1 ?k2 ?k3 ?k5 ?kA ?kF ?kK ?k6 ?k7 ?k8 ?k9 ?kB ?_ ?c2 ?c3 ?c4 ?c5)
  walk_at "QZ enter1"
  intro L' h' F' B' X' T'
  have N' := News.nil (h₀ := g) (h := h') (L := L')
  dsimp only at F' B' X' T'
  clear B F X T
  show wpAny _ _ _ _ _ _
  k_fold
  k_steps
  all_goals (clear B' X' T'; exact hret _ _ _ _ (by walk_at "QZ ext") (newIn_of (by k_asm) (fun _ h => List.mem_append.mpr (.inl h))) (by assumption))

set_option maxHeartbeats 8000000 in
theorem c_quarter1 {n : Int} {t : Tok} (hr : Int.fmod n 4 = 1) : Pu prog w p loose mean mg mb 24 (.ref 276) [.int n t] g (fun tl v => MatG w.params (In tl) v (0) (1) (-1) (0) 0 0) := by
  intro dp un gd cn cs a ccd cl outer A₀ base h₀ L m gens drawn toks os Q E B F X T hk hd hu hret
  refine wpAny_call ?_
  k_dflt (refine' enterP (binds := [(Str.ofString "n", .int n t)]) ?k1 ?k2 ?k3 ?k5 ?kA ?kF ?kK ?k6 ?k7 ?k8 ?k9 ?kB ?_ ?c2 ?c3 ?c4 ?c5)
  walk_at "QZ enter1"
  intro L' h' F' B' X' T'
  have N' := News.nil (h₀ := g) (h := h') (L := L')
  dsimp only at F' B' X' T'
  clear B F X T
  show wpAny _ _ _ _ _ _
  k_fold
  k_steps
  all_goals (clear B' X' T'; exact hret _ _ _ _ (by walk_at "QZ ext") (newIn_of (by k_asm) (fun _ h => List.mem_append.mpr (.inl h))) (by assumption))

set_option maxHeartbeats 8000000 in
theorem c_quarter2 {n : Int} {t : Tok} (hr : Int.fmod n 4 = 2) : Pu prog w p loose mean mg mb 24 (.ref 276) [.int n t] g (fun tl v => MatG w.params (In tl) v (-1) (0) (0) (-1) 0 0) := by
  intro dp un gd cn cs a ccd cl outer A₀ base h₀ L m gens drawn toks os Q E B F X T hk hd hu hret
  refine wpAny_call ?_
  k_dflt (refine' enterP (binds := [(Str.ofString "n", .int n t)]) ?k1 ?k2 ?k3 ?k5 ?kA ?kF ?kK ?k6 ?k7 ?k8 ?k9 ?kB ?_ ?c2 ?c3 ?c4 ?c5)
  walk_at "QZ enter1"
  intro L' h' F' B' X' T'
  have N' := News.nil (h₀ := g) (h := h') (L := L')
  dsimp only at F' B' X' T'
  clear B F X T
  show wpAny _ _ _ _ _ _
  k_fold
  k_steps
  all_goals (clear B' X' T'; exact hret _ _ _ _ (by walk_at "QZ ext") (newIn_of (by k_asm) (fun _ h => List.mem_append.mpr (.inl h))) (by assumption))

set_option maxHeartbeats 8000000 in
theorem c_quarter3 {n : Int} {t : Tok} (hr : Int.fmod n 4 = 3) : Pu prog w p loose mean mg mb 24 (.ref 276) [.int n t] g (fun tl v => MatG w.params (In tl) v (0) (-1) (1) (0) 0 0) := by
  intro dp un gd cn cs a ccd cl outer A₀ base h₀ L m gens drawn toks os Q E B F X T hk hd hu hret
  refine wpAny_call ?_
  k_dflt (refine' enterP (binds := [(Str.ofString "n", .int n t)]) ?k1 ?k2 ?k3 ?k5 ?kA ?kF ?kK ?k6 ?k7 ?k8 ?k9 ?kB ?_ ?c2 ?c3 ?c4 ?c5)
  walk_at "QZ enter1"
  intro L' h' F' B' X' T'
  have N' := News.nil (h₀ := g) (h := h') (L := L')
  dsimp only at F' B' X' T'
  clear B F X T
  show wpAny _ _ _ _ _ _
  k_fold
  k_steps
  all_goals (clear B' X' T'; exact hret _ _ _ _ (by walk_at "QZ ext") (newIn_of (by k_asm) (fun _ h => List.mem_append.mpr (.inl h))) (by assumption))
end
end


-- QzF19
local macro_rules | `(tactic| walk_at "call ref") => `(tactic| (k_here; (with_reducible show wpAny _ _ (call (Value.ref 392) [Value.int _ _]) _ _ _); k_dflt (refine' usePuS (c_kind_of_int _ _) ?q1 ?q2 ?q3 ?q4 ?q5 ?q6 ?q7 ?q8 ?_; walk_at "QZ use"); intro t9 h9 tk9 F9 N9; (try k_sweep); (try k_fold)))
section
open PyProof.Rows.LCg PyProof.Rows.LCp
section
variable {prog : Program} {w : World} {A A₀ : Around} {K : Frag} {base h₀ g : Heap} {L f C : Addr} {m mg mb : Str → Option Value} {p : Program} {loose : List Str} {mean : ExcName → Option Value}
  {env : Env} {outer : List Env} {R : Result → Shared → Prop} {name qual : Str} {params : Arguments} {body : List Stmt} {scope : Scope} {dV kV doc pm cdv ct oc : Value} {an od : Option Addr} {osl : Array (Option Value)} {rest : List Value} {binds : List (Str × Value)}
  {gens : Array GenState} {drawn : Drawn} {toks : Nat} {os : OsState}

/-- a class is called: its object and dict are made, __init__ walks over a ground that keeps all of g -/
theorem mkPd (B : Below A₀ base outer h₀) (F : Fr h₀ L g m) (X₀ : K.In h₀) (T : Top p loose mean mg mb h₀) (hA : A.frames = some (env :: outer)) (hf : env.frame = some L) (hke : env.scope.kind = .function)
    (hm : makesIn K C = true) (hi : findIn K (.ref C) "__init__" = some (some (.ref f))) (hfn : isFn K (.ref f) = true)
    (ho : K.lookup f = some ⟨oc, od, .func (fnOf name qual params body scope dV kV doc pm an cdv ct), osl⟩) (hcd : codeIn K cdv qual = true)
    (hroom : (A.under (.builtin "type.__call__" ⟨.ref C :: rest, []⟩)).depth < recursionLimit) (hA' : (A.under (.builtin "type.__call__" ⟨.ref C :: rest, []⟩)).frames = some (env :: outer))
    (hbind : ∀ x s, K.In s.heap → BindsTo s (fnOf name qual params body scope dV kV doc pm an cdv ct) ⟨.ref x :: rest, []⟩ ((Str.ofString "self", .ref x) :: binds)) (hloc : ∀ x, ∀ y ∈ (Str.ofString "self", Value.ref x) :: binds, scope.names.lookup y.1 = some .local)
    (h : ∀ x d g' L' h₁, Ext g g' → g.objs.size ≤ d → d < x → x < L' → Fr g' L' h₁ (fun y => ((Str.ofString "self", .ref x) :: binds).reverse.lookup y) → News g' L' h₁ [(x, instObj C d), (d, dictOf [] 0)] → Below (A.under (.builtin "type.__call__" ⟨.ref C :: rest, []⟩)) base (env :: outer) g' → K.In g' → Top p loose mean mg mb g' →
      wpAny (model prog w) ((A.under (.builtin "type.__call__" ⟨.ref C :: rest, []⟩)).deeper (envOf qual scope L' f cdv)) (execs body (envOf qual scope L' f cdv))
        (fun fl s' => InitBack x R (.ok (.ret (match fl with | .ret v => v | _ => .none))) s')
        (fun e s' => wpAny (model prog w) ((A.under (.builtin "type.__call__" ⟨.ref C :: rest, []⟩)).deeper (envOf qual scope L' f cdv)) (leaving (envOf qual scope L' f cdv) e) (fun _ s'' => InitBack x R (.error e) s'') (fun e' s'' => InitBack x R (.error e') s'') s')
        { heap := h₁, gens := gens, drawn := drawn, toks := toks + (binds.length + 1), os := os })
    (hco : scope.isCoroutine = false) (hgen : scope.isGenerator = false) (hk : scope.kind = .function)
    (hcell : ∀ x ∈ scope.names, x.2 ≠ .cell) : codeAny (model prog w) A (.call (.ref C) ⟨rest, []⟩) R ⟨g, gens, drawn, toks, os⟩ := by
  have X := X₀.keeps F.keep
  refine make_core (makes_of X hm) (looks_findIn X hi) (fun self => bind_fn X self (beq_iff_eq.mp hfn)) (.inl rfl) ?_
  have F2 : Fr h₀ L ((g.push emptyDict).push (instObj C g.objs.size)) m := (F.push _).push _
  have N2 : News h₀ L ((g.push emptyDict).push (instObj C g.objs.size)) [(g.objs.size + 1, instObj C g.objs.size), (g.objs.size, dictOf [] 0)] := by
    have := ((News.nil (h₀ := h₀) (L := L) (h := g)).push F emptyDict).push (F.push _) (instObj C g.objs.size)
    rwa [Heap.size_push] at this
  refine enterH (s := ⟨(g.push emptyDict).push (instObj C g.objs.size), gens, drawn, toks, os⟩) (binds := (Str.ofString "self", .ref (g.objs.size + 1)) :: binds) B F2 X₀ N2 T hA' hf hke ho hcd hroom (hbind _ _ (X₀.keeps F2.keep)) (hloc _) ?_ hco hgen hk hcell
  intro g' L' h₁ e FF NN BB XX TT ll
  refine h _ _ g' L' h₁ (fun b o hb => e b o ?_ (Heap.get?_push_of_some _ (Heap.get?_push_of_some _ hb))) (Nat.le_refl _) (Nat.lt_succ_self _) (ll (_, _) (.head _)) FF NN BB XX TT
  have := Heap.lt_size hb
  simp only [List.map_cons, List.map_nil, List.mem_cons, List.not_mem_nil, or_false]
  intro q
  rcases q with rfl | rfl
  · exact absurd this (Nat.not_lt.mpr (Nat.le_succ _))
  · exact absurd this (Nat.lt_irrefl _)
end
local macro_rules | `(tactic| walk_at "QZ mk1d") => `(tactic| ((case kA => exact rfl); (case kF => exact rfl); (case kK => assumption); (case k1 => k_asm); (case k2 => k_asm); (case k3 => k_asm); (case k5 => k_asm); (case km => k_is); (case ki => k_is); (case kf => k_is); (case k6 => k_is); (case k7 => k_is); (case k8 => first | exact room0 (by assumption) | ktr_room); (case kA2 => exact rfl); (case k9 => intro x s XK; exact binds_K XK rfl (by k_is) rfl rfl rfl); (case c5 => decide); (case kB => intro x; exact locs rfl); (case c2 => exact rfl); (case c3 => exact rfl); (case c4 => exact rfl)))
theorem News.dropMid2 {h₀ h : Heap} {L : Addr} {d a b : Addr × Obj} {tl : List (Addr × Obj)} (N : News h₀ L h (d :: (tl ++ [a, b]))) : News h₀ L h (d :: a :: b :: tl) := fun p hp => N p (by
  simp only [List.mem_cons, List.mem_append, List.not_mem_nil, or_false] at hp ⊢
  rcases hp with h | h | h | h <;> simp [h])
inductive OTellI (n : Int) : List (Addr × Obj) → Value → Prop
  | mk (q : Addr) (t u : Tok) (tl : List (Addr × Obj)) (h : (q, tupO [.str (Str.ofString "int") u, .int n t]) ∈ tl) : OTellI n tl (.ref q)
theorem OTellI.mono {n : Int} {a b : List (Addr × Obj)} {v : Value} (o : OTellI n a v) (s : ∀ p ∈ a, p ∈ b) : OTellI n b v := by
  cases o with
  | mk q t u _ h => exact .mk q t u _ (s _ h)

section
variable {prog : Program} {w : World} {p : Program} {loose : List Str} {mean : ExcName → Option Value} {mg mb : Str → Option Value} {g : Heap}

set_option maxHeartbeats 8000000 in
theorem c_Lookup (t1 t2 : Addr) : Pu prog w p loose mean mg mb 6 (.ref 443) [.ref t1, .ref t2] g (fun tl v => ShelfG w.params (In tl) v) := by
  intro dp un gd cn cs a ccd cl outer A₀ base h₀ L m gens drawn toks os Q E B F X T hk hd hu hret
  refine wpAny_call ?_
  k_dflt (refine' mkPd (binds := [(Str.ofString "table", .ref t1), (Str.ofString "trailer", .ref t2)]) ?k1 ?k2 ?k3 ?k5 ?kA ?kF ?kK ?km ?ki ?kf ?k6 ?k7 ?k8 ?kA2 ?k9 ?kB ?_ ?c2 ?c3 ?c4 ?c5)
  walk_at "QZ mk1d"
  intro x d g' L' h' kE kS kx kL F' N' B' X' T'
  replace kx := ltN kx
  clear B F X T
  show wpAny _ _ _ _ _ _
  k_fold
  k_steps
  all_goals (clear B' X' T'; refine ⟨rfl, hret _ _ _ _ (by walk_at "QZ ext") (newIn_of2 (by assumption) (by k_asm) (fun _ h => h)) ?_⟩; exact ⟨_, _, _, _, _, _, rfl, by k_mem, by k_mem⟩)

set_option maxHeartbeats 8000000 in
theorem c_told_plain_int {n : Int} {t u : Tok} : Pu prog w p loose mean mg mb 6 (.ref 406) [.str (Str.ofString "int") u, .int n t] g (OTellI n) := by
  intro dp un gd cn cs a ccd cl outer A₀ base h₀ L m gens drawn toks os Q E B F X T hk hd hu hret
  refine wpAny_call ?_
  k_dflt (refine' enterP (binds := [(Str.ofString "kind", .str (Str.ofString "int") u), (Str.ofString "value", .int n t)]) ?k1 ?k2 ?k3 ?k5 ?kA ?kF ?kK ?k6 ?k7 ?k8 ?k9 ?kB ?_ ?c2 ?c3 ?c4 ?c5)
  walk_at "QZ enter1"
  intro L' h' F' B' X' T'
  have N' := News.nil (h₀ := g) (h := h') (L := L')
  dsimp only at F' B' X' T'
  clear B F X T
  show wpAny _ _ _ _ _ _
  k_fold
  k_steps
  all_goals (exact hret _ _ _ _ (by walk_at "QZ ext") (newIn_of (by k_asm) (fun _ h => h)) (.mk _ _ _ _ (by k_mem)))
local macro_rules | `(tactic| walk_at "call ref") => `(tactic| (k_here; (with_reducible show wpAny _ _ (call (Value.ref 406) _) _ _ _); k_dflt (refine' usePu (c_told_plain_int) ?q1 ?q2 ?q3 ?q4 ?q5 ?q6 ?q7 ?q8 ?_; walk_at "QZ use"); walk_at "QZ f0"))

set_option maxHeartbeats 8000000 in
theorem c_told_int {n : Int} {t : Tok} : Pu prog w p loose mean mg mb 16 (.ref 411) [.int n t] g (OTellI n) := by
  intro dp un gd cn cs a ccd cl outer A₀ base h₀ L m gens drawn toks os Q E B F X T hk hd hu hret
  refine wpAny_call ?_
  k_dflt (refine' enterC (binds := [(Str.ofString "value", .int n t)]) ?k1 ?k2 ?k3 ?k5 ?kA ?kF ?kK ?k6 ?k7 ?k8 ?k9 ?kB ?kD ?_ ?c2 ?c3 ?c4)
  walk_at "QZ enterC1"
  intro L' h' tk' cells' F' N' Y' B' X' T'
  k_cells Y'
  dsimp only at F' B' X' T' N'
  clear B F X T
  show wpAny _ _ _ _ _ _
  k_fold
  k_steps
  all_goals (exact hret _ _ _ _ (by walk_at "QZ ext") (newIn_of (by k_asm) (fun _ h => List.mem_append.mpr (.inl h))) (.mk _ _ _ _ (by assumption)))
local macro_rules | `(tactic| walk_at "call ref") => `(tactic| (k_here; (with_reducible show wpAny _ _ (call (Value.ref 392) [Value.ref _]) _ _ _); k_dflt (refine' usePuS (c_kind_of_list ?hl) ?q1 ?q2 ?q3 ?q4 ?q5 ?q6 ?q7 ?q8 ?_; (case hl => is_list); walk_at "QZ use"); intro t9 h9 tk9 F9 N9; (try k_sweep); (try k_fold)))
local macro_rules | `(tactic| walk_at "call ref") => `(tactic| (k_here; (with_reducible show wpAny _ _ (call (Value.ref 411) [Value.int _ _]) _ _ _); k_dflt (refine' usePu (c_told_int) ?q1 ?q2 ?q3 ?q4 ?q5 ?q6 ?q7 ?q8 ?_; walk_at "QZ use"); walk_at "QZ f3"))

set_option maxHeartbeats 8000000 in
theorem c_told_list {l : Addr} {n : Int} {t : Tok} (hl : g.IsList l #[.int n t]) : Pu prog w p loose mean mg mb 40 (.ref 411) [.ref l] g (fun tl v => ∃ q a t', v = .ref q ∧ (q, tupO [.str (Str.ofString "array") t', a]) ∈ tl ∧ OTellI n tl a) := by
  intro dp un gd cn cs a ccd cl outer A₀ base h₀ L m gens drawn toks os Q E B F X T hk hd hu hret
  refine wpAny_call ?_
  k_dflt (refine' enterC (binds := [(Str.ofString "value", .ref l)]) ?k1 ?k2 ?k3 ?k5 ?kA ?kF ?kK ?k6 ?k7 ?k8 ?k9 ?kB ?kD ?_ ?c2 ?c3 ?c4)
  walk_at "QZ enterC1"
  intro L' h' tk' cells' F' N' Y' B' X' T'
  k_cells Y'
  dsimp only at F' B' X' T' N'
  clear B F X T
  show wpAny _ _ _ _ _ _
  k_fold
  k_steps
  refine .go ?_
  refine ListComp_U (F₀ := by k_asm) (by with_unfolding_all rfl) (by decide) (by rfl) (by decide) (by rfl) ?_
  k_steps
  refine .go ?_
  refine srcU (its := #[.int n t]) (Out := fun _ tl y => OTellI n tl y) rfl (by k_asm) (by k_asm) (.inl hl) (Nat.le_of_ble_eq_true rfl) ?el ?fin
  case el =>
    intro g1 i v hi hv C oC m₂ h tk nw E' hC hx F' N'
    have hi0 : i = 0 := by simp at hi; omega
    subst hi0
    obtain rfl : v = .int n t := by simpa using hv.symm
    k_steps
    refine ElEnd.call ?_ (by k_asm) (by k_asm) (by assumption)
    assumption
  case fin =>
  intro g1
  refine AfterE.fin ?_
  intro D1 h1 tk1 ys tl1 hA F' N' off
  obtain ⟨y, rfl⟩ : ∃ y, ys = [y] := by
    have := hA.1
    exact List.length_eq_one_iff.mp this
  refine ex1 (hA.2 0 y rfl) ?_
  intro tt zz9
  refine and2 zz9 ?_
  try clear zz9
  intro hts hT
  have hT2 := hT.mono hts
  replace N' := News.dropMid2 N'
  clear hts hT hA off
  k_steps
  exact hret _ _ _ _ (by walk_at "QZ ext") (newIn_of (by k_asm) (fun _ h => h)) ⟨_, _, _, rfl, .head _, hT2.mono fun p hp => .tail _ (.tail _ (.tail _ (.tail _ (.tail _ hp))))⟩
end
end


-- QzF20

section
open PyProof.Rows.LCg PyProof.Rows.LCp

theorem sgn_np {n : Int} (h : n ≤ 0) : sgn n ≤ 0 := by unfold sgn; repeat' split
                                                       all_goals omega
theorem sgn_nn {n : Int} (h : 0 ≤ n) : 0 ≤ sgn n := by unfold sgn; repeat' split
                                                       all_goals omega

section
variable {prog : Program} {w : World} {p : Program} {loose : List Str} {mean : ExcName → Option Value} {mg mb : Str → Option Value} {g : Heap}

set_option maxHeartbeats 8000000 in
theorem c_within {t u : Addr} {v1 v2 v3 v4 v5 v6 v7 v8 : Value} {n1 n2 n3 n4 n5 n6 n7 n8 : Int} (hT : IsTup g t #[v1, v2, v3, v4]) (hU : IsTup g u #[v5, v6, v7, v8]) (h1 : DecAt w.params g v1 n1) (h2 : DecAt w.params g v2 n2) (h3 : DecAt w.params g v3 n3) (h4 : DecAt w.params g v4 n4) (h5 : DecAt w.params g v5 n5) (h6 : DecAt w.params g v6 n6) (h7 : DecAt w.params g v7 n7) (h8 : DecAt w.params g v8 n8) (l1 : n5 ≤ n1) (l2 : n6 ≤ n2) (l3 : n3 ≤ n7) (l4 : n4 ≤ n8) : Pu prog w p loose mean mg mb 30 (.ref 521) [.ref t, .ref u] g (fun tl v => v = .bool true) := by
  refine DecG.rawC h1 ?_
  intro a1 d1 p1 q1 r1 s1 e1 x1 y1
  subst e1
  refine DecG.rawC h2 ?_
  intro a2 d2 p2 q2 r2 s2 e2 x2 y2
  subst e2
  refine DecG.rawC h3 ?_
  intro a3 d3 p3 q3 r3 s3 e3 x3 y3
  subst e3
  refine DecG.rawC h4 ?_
  intro a4 d4 p4 q4 r4 s4 e4 x4 y4
  subst e4
  refine DecG.rawC h5 ?_
  intro a5 d5 p5 q5 r5 s5 e5 x5 y5
  subst e5
  refine DecG.rawC h6 ?_
  intro a6 d6 p6 q6 r6 s6 e6 x6 y6
  subst e6
  refine DecG.rawC h7 ?_
  intro a7 d7 p7 q7 r7 s7 e7 x7 y7
  subst e7
  refine DecG.rawC h8 ?_
  intro a8 d8 p8 q8 r8 s8 e8 x8 y8
  subst e8
  have b1 := sgn_np (show n5 - n1 ≤ 0 by omega)
  have b2 := sgn_np (show n6 - n2 ≤ 0 by omega)
  have b3 := sgn_nn (show 0 ≤ n7 - n3 by omega)
  have b4 := sgn_nn (show 0 ≤ n8 - n4 by omega)
  intro dp un gd cn cs a ccd cl outer A₀ base h₀ L m gens drawn toks os Q E B F X T hk hd hu hret
  refine wpAny_call ?_
  k_dflt (refine' enterP (binds := [(Str.ofString "inner", .ref t), (Str.ofString "outer", .ref u)]) ?k1 ?k2 ?k3 ?k5 ?kA ?kF ?kK ?k6 ?k7 ?k8 ?k9 ?kB ?_ ?c2 ?c3 ?c4 ?c5)
  walk_at "QZ enter1"
  intro L' h' F' B' X' T'
  have N' := News.nil (h₀ := g) (h := h') (L := L')
  dsimp only at F' B' X' T'
  clear B F X T
  show wpAny _ _ _ _ _ _
  k_fold
  k_steps
  all_goals first | (exfalso; omega) | exact hret _ _ _ _ (by walk_at "QZ ext") (by walk_at "QZ new") (congrArg Value.bool (decide_eq_true (by assumption))) | exact hret _ _ _ _ (by walk_at "QZ ext") (by walk_at "QZ new") rfl
end
end


-- QzF21

section
open PyProof.Rows.LCg PyProof.Rows.LCp

def ExtX (c : Addr) (g h : Heap) : Prop := ∀ b o, b ≠ c → g.get? b = some o → h.get? b = some o
/-- a call that changes one object c of the caller's ledger and keeps all else -/
def PuM (prog : Program) (w : World) (p : Program) (loose : List Str) (mean : ExcName → Option Value) (mg mb : Str → Option Value) (dep : Nat) (f : Value) (vs : List Value) (g : Heap) (c : Addr) (oc : Obj)
    (Out : Obj → List (Addr × Obj) → Value → Prop) : Prop :=
  ∀ (dp un : Nat) (gd : Option (List Code)) (cn : Str) (cs : Scope) (a : Addr) (ccd : Value) (cl : List (Str × Addr)) (outer : List Env) (A₀ : Around) (base h₀ : Heap) (L : Addr) (m : Str → Option Value)
    (gens : Array GenState) (drawn : Drawn) (toks : Nat) (os : OsState) (Q E : Value → Shared → Prop),
    Below A₀ base outer h₀ → Fr h₀ L g m → News h₀ L g [(c, oc)] → (hd.heap_39 w.params).In h₀ → Top p loose mean mg mb h₀ → cs.kind = .function →
    dp + dep < recursionLimit → un + 8 * dep < cLine →
    (∀ v h' tk' oc' tl, ExtX c g h' → h'.get? c = some oc' → NewIn g h' tl → Out oc' tl v → Q v ⟨h', gens, drawn, tk', os⟩) →
    wpAny (model prog w) (ktrTop dp un gd cn cs L a ccd cl outer) (call f vs) Q E ⟨g, gens, drawn, toks, os⟩
theorem fr_extX {h₀ g h' : Heap} {L c : Addr} {m : Str → Option Value} {oc : Obj} (F : Fr h₀ L g m) (N : News h₀ L g [(c, oc)]) (e : ExtX c g h') : Fr h₀ L h' m := by
  refine and3 (N _ (.head _)) ?_
  intro h1 h2 h3
  refine ex3 (F.ns) ?_
  intro oL a1 a2 zz9
  refine and2 zz9 ?_
  try clear zz9
  intro hoL a3
  exact ⟨⟨oL, a1, a2, e L oL (Ne.symm h2) hoL, a3⟩, fun b o hb => e b o (fun q => by rw [q] at hb; exact absurd (h3.symm.trans hb) (fun q => nomatch q)) (F.keep _ _ hb), F.above⟩
theorem usePuM {prog : Program} {w : World} {p : Program} {loose : List Str} {mean : ExcName → Option Value} {mg mb : Str → Option Value} {dep : Nat} {f : Value} {vs : List Value} {s : Shared} {c : Addr} {oc : Obj}
    {Out : Obj → List (Addr × Obj) → Value → Prop} {G : Obj → List (Addr × Obj)}
    {dp un : Nat} {gd : Option (List Code)} {cn : Str} {cs : Scope} {a : Addr} {ccd : Value} {cl : List (Str × Addr)} {outer : List Env} {A₀ : Around} {base h₀ : Heap} {L : Addr} {m : Str → Option Value}
    {Q E : Value → Shared → Prop} {news : List (Addr × Obj)}
    (C : PuM prog w p loose mean mg mb dep f vs s.heap c oc Out) (U : UpdF c oc news G)
    (B : Below A₀ base outer h₀) (F : Fr h₀ L s.heap m) (X : (hd.heap_39 w.params).In h₀) (N : News h₀ L s.heap news) (T : Top p loose mean mg mb h₀) (hk : cs.kind = .function)
    (hd : dp + dep < recursionLimit) (hu : un + 8 * dep < cLine)
    (h : ∀ v h' tk' oc' tl, Out oc' tl v → Fr h₀ L h' m → News h₀ L h' (tl ++ G oc') → (∀ q ∈ tl, ∀ p ∈ G oc', p.1 ≠ q.1) → Q v { s with heap := h', toks := tk' }) :
    wpAny (model prog w) (ktrTop dp un gd cn cs L a ccd cl outer) (call f vs) Q E s := by
  obtain ⟨g, gens, drawn, toks, os⟩ := s
  refine ex2 (U.split) ?_
  intro pre post zz9
  refine and4 zz9 ?_
  try clear zz9
  intro e9r79 hg ha hb
  subst e9r79
  have hc := N (c, oc) (List.mem_append_right _ (.head _))
  have N1 : News h₀ L g [(c, oc)] := fun p hp => by rw [List.mem_singleton.mp hp]; exact hc
  refine C _ _ _ _ _ _ _ _ _ _ _ _ _ _ _ _ _ _ _ _ B F N1 X T hk hd hu fun v h' tk' oc' tl e hco ni o => ?_
  have key : ∀ p ∈ pre ++ (c, oc') :: post, h'.get? p.1 = some p.2 ∧ p.1 ≠ L ∧ h₀.get? p.1 = none := fun p hp => by
    rcases List.mem_append.mp hp with hp | hp
    · refine and2 (N p (List.mem_append_left _ hp)) ?_
      intro h1 h2
      exact ⟨e _ _ (ha p hp) h1, h2⟩
    · rcases List.mem_cons.mp hp with rfl | hp
      · exact ⟨hco, hc.2⟩
      · refine and2 (N p (List.mem_append_right _ (.tail _ hp))) ?_
        intro h1 h2
        exact ⟨e _ _ (hb p hp) h1, h2⟩
  have old : ∀ p ∈ pre ++ (c, oc') :: post, ∃ o, g.get? p.1 = some o := fun p hp => by
    rcases List.mem_append.mp hp with hp | hp
    · exact ⟨_, (N p (List.mem_append_left _ hp)).1⟩
    · rcases List.mem_cons.mp hp with rfl | hp
      · exact ⟨_, hc.1⟩
      · exact ⟨_, (N p (List.mem_append_right _ (.tail _ hp))).1⟩
  simp only [hg] at h
  refine h v h' tk' oc' tl o (fr_extX F N1 e) (fun q hq => ?_) fun q hq p hp z => ?_
  · rcases List.mem_append.mp hq with hq | hq
    · refine and2 (ni q hq) ?_
      intro h1 h2
      refine ⟨h2, fun e' => ?_, ?_⟩
      · refine ex3 (F.ns) ?_
        intro oL _ _ zz9
        refine and2 zz9 ?_
        try clear zz9
        intro hL _
        rw [e', hL] at h1; cases h1
      · cases hg : h₀.get? q.1 with
        | none => rfl
        | some o => rw [F.keep _ _ hg] at h1; cases h1
    · exact key q hq
  · have := (ni q hq).1
    refine ex1 (old p hp) ?_
    intro o ho
    rw [← z, ho] at this; cases this
theorem extX_of {g g' h : Heap} {L ca : Addr} {m : Str → Option Value} (hk : ∀ b o, b ∉ [ca] → g.get? b = some o → g'.get? b = some o) (F : Fr g' L h m) : ExtX ca g h := fun b o hb e => F.keep _ _ (hk b o (by simpa using hb) e)
def penO (I : Addr) (sp rs : Int) (t u : Tok) (e : Nat) : Obj := W.listOf #[.ref I, .int sp t, .int rs u] e
/-- the pen after a draw -/
def OutR (I : Addr) (sp many : Int) (oc : Obj) (tl : List (Addr × Obj)) (v : Value) : Prop :=
  ∃ sp' rs' t u e r t', oc = penO I sp' rs' t u e ∧ sp ≤ sp' ∧ sp' ≤ sp + 1 ∧ tl = [] ∧ v = .int r t' ∧ 0 ≤ r ∧ r < many

section
variable {prog : Program} {w : World} {A : Around} {E : Value → Shared → Prop} {Q : Value → Shared → Prop} {s : Shared} {a b : Int} {t u : Tok}
theorem mod_any (hb : 0 < b) (h : ∀ r, 0 ≤ r → r < b → Q (.int r s.toks) { s with toks := s.toks + 1 }) : wpAny (model prog w) A (binaryOp .Mod (.int a t) (.int b u)) Q E s :=
  PyProof.Rows.mod_int' (by omega) (h _ (Int.fmod_nonneg_of_pos _ hb) (Int.fmod_lt_of_pos _ hb))
theorem fdiv_any (hb : 0 < b) (hb2 : b < 1000) (h : ∀ r, (0 ≤ a → 0 ≤ r) → Q (.int r s.toks) { s with toks := s.toks + 1 }) : wpAny (model prog w) A (binaryOp .FloorDiv (.int a t) (.int b u)) Q E s :=
  PyProof.Rows.floordiv_int (by omega) (h _ fun ha => Int.fdiv_nonneg ha (by omega)) (.inl (PyProof.noPylong_small (by omega)))
theorem sum_any {h₀ : Heap} {L : Addr} {m : Str → Option Value} {news : List (Addr × Obj)} {l : Addr} {vs : List Value} {ns : List Int} (hh : A.handled = none) (F : Fr h₀ L s.heap m) (N : News h₀ L s.heap news) (hl : s.heap.IsList l vs.toArray) (hi : IntsAre vs ns)
    (h : ∀ h' tk t' r, Fr h₀ L h' m → News h₀ L h' news → Q (.int r t') { s with heap := h', toks := tk }) : wpAny (model prog w) A (call (.builtin "sum") [.ref l]) Q E s :=
  sumK hh F N hl hi fun h' tk t' F' N' => h h' tk t' _ F' N'
theorem abs_any (h : ∀ r u tk, 0 ≤ r → Q (.int r u) { s with toks := tk }) : wpAny (model prog w) A (call (.builtin "abs") [.int a t]) Q E s :=
  call_abs_int fun u tk => h _ u tk (by split <;> omega)
theorem len_ints {l : Addr} {vs : List Value} {ns : List Int} (hl : s.heap.IsList l vs.toArray) (hv : IntsAre vs ns) (hn : ns.length ≤ 40) (h : Q (.int (ns.length : Int) (s.toks + 1)) { s with toks := s.toks + 1 + 1 }) :
    wpAny (model prog w) A (call (.builtin "len") [.ref l]) Q E s := len_lit ns.length hl (by rw [List.size_toArray, hv.length]) (by omega) h
theorem ne_nil {l b : Addr} {vs : List Value} {ns : List Int} (hl : s.heap.IsList l vs.toArray) (hv : IntsAre vs ns) (hb : s.heap.IsList b #[]) (hu : A.units + 64 < cLine) (h1 : 0 < ns.length → Q (.bool true) s) (h2 : Q (.bool false) s) :
    wpAny (model prog w) A (compareOp .NotEq (.ref l) (.ref b)) Q E s := by
  refine ke_ne_ints (ys := []) (ms := []) hl hb hv .nil hu ?_
  cases ns with
  | nil => exact h2
  | cons n r => exact h1 (by simp)
theorem item_any {value slice : Expr} {l : Addr} {vs : List Value} {ns : List Int} {k : Int} {u : Tok} (hl : s.heap.IsList l vs.toArray) (hv : IntsAre vs ns) (hn : ns.length ≤ 40) (h0 : 0 ≤ k) (hk : k < (ns.length : Int)) (h : ∀ r t, Q (.int r t) s)
    (hs : subscripted slice false (.ref l) (.int k u) = operate [.ref l, .int k u] (getItem (.ref l) (.int k u)) := by with_unfolding_all rfl) (hg : ∀ r, letTemporaryGo value (.ref l) r = pure () := by intro _; with_unfolding_all rfl) :
    wpAny (model prog w) A (subscriptTail value slice (.ref l) (.int k u)) Q E s := by
  have hl' := hv.length
  obtain ⟨v, hv'⟩ : ∃ v, vs[k.toNat]? = some v := ⟨vs[k.toNat]'(by omega), List.getElem?_eq_getElem _⟩
  refine ex2 (hv.at _ _ hv') ?_
  intro n t zz9
  refine and2 zz9 ?_
  try clear zz9
  intro e9r80 zz8
  subst e9r80
  clear zz8
  exact item_list hl h0 (by omega) (by simpa using hv') (h n t) hs hg
theorem pow_any (hb : 0 ≤ b) (hb2 : b ≤ 100) (ha : a.natAbs < 2 ^ 64) (h : ∀ r, Q (.int r s.toks) { s with toks := s.toks + 1 }) : wpAny (model prog w) A (binaryOp .Pow (.int a t) (.int b u)) Q E s :=
  pow_int_small hb (by omega) ha (h _)
theorem mul_l (ha : Sm a) (h : Q (.int (a * b) s.toks) { s with toks := s.toks + 1 }) : wpAny (model prog w) A (binaryOp .Mult (.int a t) (.int b u)) Q E s :=
  PyProof.Rows.mul_int h (IntMulOk.of_left (intBits_le_64 (by have := ha.1; omega) (by have := ha.2; omega)))
theorem sm1 : Sm 20947 := ⟨by decide, by decide⟩
theorem sm2 : Sm 2 := ⟨by decide, by decide⟩
theorem mul_bd (h1 : 0 ≤ a) (h2 : a ≤ 2147483648) (h3 : 0 ≤ b) (h4 : b ≤ 32768) (h : ∀ r, 0 ≤ r → r ≤ 70368744177664 → Q (.int r s.toks) { s with toks := s.toks + 1 }) : wpAny (model prog w) A (binaryOp .Mult (.int a t) (.int b u)) Q E s :=
  PyProof.Rows.mul_int (h _ (Int.mul_nonneg h1 h3) (Int.le_trans (Int.mul_le_mul h2 h4 h3 (by decide)) (by decide))) (imo ⟨by omega, by omega⟩)
end

local macro_rules | `(tactic| walk_at "binaryOp Mod int int") => `(tactic| ((with_reducible refine mod_any ?k1 ?_); (case k1 => omega); intro r9 hr9 hs9))
local macro_rules | `(tactic| walk_at "binaryOp FloorDiv int int") => `(tactic| ((with_reducible refine fdiv_any ?k1 ?k2 ?_); (case k1 => omega); (case k2 => omega); intro r9 hr9))
local macro_rules | `(tactic| walk_at "binaryOp Pow int int") => `(tactic| ((with_reducible refine pow_any ?k1 ?k2 ?k3 ?_); (case k1 => omega); (case k2 => omega); (case k3 => omega); intro r9))
local macro_rules | `(tactic| walk_at "binaryOp Mult int int") => `(tactic| first | (with_reducible refine mul_l (a := 20947) sm1 ?_) | (with_reducible refine mul_l (a := 2) sm2 ?_) | ((with_reducible refine mul_bd ?k1 ?k2 ?k3 ?k4 ?_); (case k1 => omega); (case k2 => omega); (case k3 => omega); (case k4 => omega); intro r9 hr9 hs9))
local macro_rules | `(tactic| walk_at "call builtin:sum") => `(tactic| (k_here; (with_reducible show wpAny _ _ (call (Value.builtin "sum") [Value.ref _]) _ _ _); (with_unfolding_all refine' sum_any ?k0 ?k1 ?k2 ?k3 ?k4 ?_; (case k0 => with_unfolding_all rfl); (case k1 => k_asm); (case k2 => k_asm); (case k3 => is_list); (case k4 => l_ints); k_whole); intro h' tk' t' r9 F' N'; (try k_sweep)))
local macro_rules | `(tactic| walk_at "call builtin:abs") => `(tactic| ((with_reducible refine abs_any ?_); intro r9 u9 tk9 hr9))
local macro_rules | `(tactic| walk_at "call builtin:len") => `(tactic| (k_here; (with_reducible show wpAny _ _ (call (Value.builtin "len") [Value.ref _]) _ _ _); k_dflt (refine' len_ints ?k1 ?k2 ?k3 ?_; (case k1 => is_list); (case k2 => assumption); (case k3 => assumption))))
local macro_rules | `(tactic| walk_at "compareOp NotEq ref ref") => `(tactic| (k_here; refine stop9 ?_))
local macro_rules | `(tactic| walk_at "subscriptTail") => `(tactic| (k_here; (with_reducible show wpAny _ _ (subscriptTail _ _ (Value.ref _) (Value.int _ _)) _ _ _); k_dflt (refine' item_any ?k1 ?k2 ?k3 ?k4 ?k5 ?_; (case k1 => is_list); (case k2 => assumption); (case k3 => assumption); (case k4 => assumption); (case k5 => assumption)); intro r9 t9))

local macro_rules | `(tactic| walk_at "exec If") => `(tactic| (k_here; (with_reducible show wpAny _ _ (exec (PySem.Stmt.If (PySem.Expr.Compare _ [PySem.CmpOp.NotEq] _ _) _ _ _) _) _ _ _); refine stop9 ?_))
local macro_rules | `(tactic| walk_at "exec If") => `(tactic| (k_here; (with_reducible show wpAny _ _ (exec (PySem.Stmt.If (PySem.Expr.BoolOp _ _ _) _ _ _) _) _ _ _); refine stop9 ?_))
local macro_rules | `(tactic| walk_at "QZ nm") => `(tactic| first | exact rfl | (repeat (first | assumption | refine nm_skip (by decide) ?_)))
local macro_rules | `(tactic| walk_at "eval Name") => `(tactic| (k_here; k_dflt (refine' ld ?k1 ?k2 ?_; (case k1 => k_asm); (case k2 => walk_at "QZ nm"); k_whole)))
/-- the names of _law_draw, whatever the cell is -/
def DrawN (P : Addr) (many sp : Int) (tm ts : Tok) (m : Str → Option Value) (r : Int) (t : Tok) : Prop := m (Str.ofString "pen") = some (.ref P) ∧ m (Str.ofString "many") = some (.int many tm) ∧ m (Str.ofString "spot") = some (.int sp ts) ∧ m (Str.ofString "cell") = some (.int r t)
def DrawJ (g : Heap) (L P : Addr) (news : List (Addr × Obj)) (many sp : Int) (tm ts : Tok) (s s' : Shared) : Prop :=
  ∃ h' tk m' r t', s' = { s with heap := h', toks := tk } ∧ Fr g L h' m' ∧ News g L h' news ∧ DrawN P many sp tm ts m' r t'
theorem DrawJ.intro {g : Heap} {L P : Addr} {news nw : List (Addr × Obj)} {many sp : Int} {tm ts : Tok} {s : Shared} {h' : Heap} {tk : Nat} {m' : Str → Option Value} {r : Int} {t' : Tok} (F : Fr g L h' m') (N : News g L h' nw) (hs : ∀ p ∈ news, p ∈ nw) (h1 : m' (Str.ofString "pen") = some (.ref P)) (h2 : m' (Str.ofString "many") = some (.int many tm)) (h3 : m' (Str.ofString "spot") = some (.int sp ts)) (h4 : m' (Str.ofString "cell") = some (.int r t')) :
    DrawJ g L P news many sp tm ts s { s with heap := h', toks := tk } := ⟨h', tk, m', r, t', rfl, F, fun p hp => N p (hs p hp), h1, h2, h3, h4⟩
theorem cutC {prog : Program} {w : World} {A : Around} {E : Value → Shared → Prop} {Q : Flow → Shared → Prop} {s : Shared} {t : Sem Flow} {g : Heap} {L P : Addr} {m : Str → Option Value} {news : List (Addr × Obj)} {many sp : Int} {tm ts : Tok} (_F : Fr g L s.heap m) (_N : News g L s.heap news)
    (hif : wpAny (model prog w) A t (fun fl s' => fl = .next ∧ DrawJ g L P news many sp tm ts s s') E s)
    (hrest : ∀ h' tk m' r t', Fr g L h' m' → News g L h' news → DrawN P many sp tm ts m' r t' → Q .next { s with heap := h', toks := tk }) :
    wpAny (model prog w) A t Q E s := wpAny_mono hif (fun fl s' z => and2 z fun e z => ex5 z fun h' tk m' r t' z => and4 z fun e' h1 h2 h3 => by subst e; subst e'; exact hrest h' tk m' r t' h1 h2 h3) fun _ _ e => e
theorem cutR {prog : Program} {w : World} {A : Around} {E : Value → Shared → Prop} {Q : Flow → Shared → Prop} {s : Shared} {t : Sem Flow} {g : Heap} {L P : Addr} {m : Str → Option Value} {news : List (Addr × Obj)} {many sp r : Int} {tm ts tr : Tok} (_F : Fr g L s.heap m) (_N : News g L s.heap news) (D : DrawN P many sp tm ts m r tr)
    (hif : ∀ Q' : Flow → Shared → Prop, (∀ h' tk, Fr g L h' m → News g L h' news → Q' .next { s with heap := h', toks := tk }) → (∀ v s', Q (.ret v) s' → Q' (.ret v) s') → wpAny (model prog w) A t Q' E s)
    (hrest : ∀ h' tk m', Fr g L h' m' → News g L h' news → DrawN P many sp tm ts m' r tr → Q .next { s with heap := h', toks := tk }) :
    wpAny (model prog w) A t Q E s := hif Q (fun h' tk h1 h2 => hrest h' tk m h1 h2 D) fun _ _ h => h
section
variable {prog : Program} {w : World} {p : Program} {loose : List Str} {mean : ExcName → Option Value} {mg mb : Str → Option Value} {g : Heap}

set_option maxHeartbeats 8000000 in
theorem c_draw {P I : Addr} {vs : List Value} {ns : List Int} {sp rs many : Int} {t u tm : Tok} {e : Nat} (hI : g.IsList I vs.toArray) (hv : IntsAre vs ns) (hlen : ns.length ≤ 40) (h0 : 0 ≤ sp) (h1 : sp ≤ 100) (hm : 0 < many) (hm2 : many ≤ 100) (hPI : I ≠ P) :
    PuM prog w p loose mean mg mb 20 (.ref 490) [.ref P, .int many tm] g P (penO I sp rs t u e) (OutR I sp many) := by
  intro dp un gd cn cs a ccd cl outer A₀ base h₀ L m gens drawn toks os Q E B F N X T hk hd hu hret
  unfold penO at N
  refine wpAny_call ?_
  k_dflt (refine' enterH (binds := [(Str.ofString "pen", .ref P), (Str.ofString "many", .int many tm)]) ?k1 ?k2 ?k3 ?k4 ?k5 ?kA ?kF ?kK ?k6 ?k7 ?k8 ?k9 ?kB ?_ ?c2 ?c3 ?c4 ?c5)
  (case k4 => exact N)
  walk_at "QZ enter1"
  intro g' L' h' hg' F' N' B' X' T' l1
  replace hI : g'.IsList I vs.toArray := by
    refine ex1 hI ?_
    try clear hI
    intro o zz9
    refine and2 zz9 ?_
    try clear zz9
    intro ho hr
    exact ⟨o, hg' _ _ (by simpa using hPI) ho, hr⟩
  (try dsimp only at F' B' X' T' N')
  clear B F X T N
  k_lt l1
  show wpAny _ _ _ _ _ _
  k_fold
  k_steps
  · (refine hret _ _ _ _ [] (extX_of hg' (by k_asm)) (News.get (by k_asm) (by k_mem)) newIn_nil ⟨_, _, _, _, _, _, _, rfl, ?_, ?_, rfl, rfl, by assumption, by assumption⟩ <;> omega)
  refine .go ?_
  rename News _ _ _ _ => NN
  rename Fr _ _ _ _ => FF
  refine cutC (P := P) (many := many) (sp := sp) (tm := tm) (ts := t) FF NN ?hif ?hrest
  case hif =>
    refine wpAny_If ?_
    k_steps
    refine .go ?_
    refine ne_nil (Fr.lst (by k_asm) hI) hv (News.isList (by k_asm) (.head _)) (by ke_room) (fun hp9 => ?_) ?_
    all_goals k_steps
    all_goals exact DrawJ.intro (by k_asm) (by k_asm) (fun p hp => by first | exact hp | exact List.mem_cons_of_mem _ hp) rfl rfl rfl rfl
  case hrest =>
  intro h5 tk5 m5 rc tc F5 N5 D5
  refine and4 (id D5) ?_
  intro hn1 hn2 hn3 hn4
  clear NN FF
  k_steps
  refine .go ?_
  rename News _ _ _ _ => NN
  rename Fr _ _ _ _ => FF
  refine cutR FF NN D5 ?hif ?hrest
  case hif =>
    clear D5
    intro Q' hnx hrt
    refine wpAny_If ?_
    k_steps
    all_goals first
      | exact hnx _ _ (by k_asm) (by k_asm)
      | (refine hrt _ _ ?_; (refine hret _ _ _ _ [] (extX_of hg' (by k_asm)) (News.get (by k_asm) (by k_mem)) newIn_nil ⟨_, _, _, _, _, _, _, rfl, ?_, ?_, rfl, rfl, by assumption, by assumption⟩ <;> omega))
  case hrest =>
  clear D5 FF NN hn1 hn2 hn3 hn4
  intro h6 tk6 m6 F6 N6 D6
  refine and4 D6 ?_
  clear D6
  intro hn1 hn2 hn3 hn4
  k_steps
  (refine hret _ _ _ _ [] (extX_of hg' (by k_asm)) (News.get (by k_asm) (by k_mem)) newIn_nil ⟨_, _, _, _, _, _, _, rfl, ?_, ?_, rfl, rfl, by assumption, by assumption⟩ <;> omega)
end
end


-- QzF22

section
open PyProof.Rows.LCg PyProof.Rows.LCp

/-- a page annotation's dict: a rectangle, F, Contents, and k quadrilaterals -/
def HeadAt (prog : Program) (w : World) (G : Addr → Obj → Prop) (v : Value) (c : Addr) (k : Nat) (x1 x2 x3 x4 : Int) (ns : Nat → Int) : Prop :=
  ∃ (d : Addr) (o : Obj) (r : Addr) (t : Tok) (e : Nat) (w1 w2 w3 w4 : Value), v = .ref d ∧ G d o ∧ (d == sysModules) = false ∧ G r (W.listOf #[w1, w2, w3, w4] e) ∧ NumG w.params G w1 x1 ∧ NumG w.params G w2 x2 ∧ NumG w.params G w3 x3 ∧ NumG w.params G w4 x4 ∧
    ((k = 0 ∧ o.IsDictOf (strKind prog w) (hd3 r t c)) ∨ ((k = 1 ∨ k = 2) ∧ ∃ (q : Addr) (vs : List Value) (e' : Nat), o.IsDictOf (strKind prog w) (hd4 r t c q) ∧ G q (W.listOf vs.toArray e') ∧ vs.toArray.size = 8 * k ∧ ∀ i v, vs.toArray[i]? = some v → NumG w.params G v (ns i)))
theorem HeadAt.mono {prog : Program} {w : World} {G H : Addr → Obj → Prop} {v : Value} {c : Addr} {k : Nat} {x1 x2 x3 x4 : Int} {ns : Nat → Int} (D : HeadAt prog w G v c k x1 x2 x3 x4 ns) (m : ∀ a o, G a o → H a o) : HeadAt prog w H v c k x1 x2 x3 x4 ns := by
  refine ex9 D ?_
  try clear D
  intro d o r t e w1 w2 w3 w4 zz9
  refine and9 zz9 ?_
  try clear zz9
  intro h1 h2 h3 h4 n1 n2 n3 n4 h
  refine ⟨d, o, r, t, e, w1, w2, w3, w4, h1, m _ _ h2, h3, m _ _ h4, n1.mono m, n2.mono m, n3.mono m, n4.mono m, h.imp id fun ⟨hk, q, vs, e', a, b, cc, dd⟩ => ⟨hk, q, vs, e', a, m _ _ b, cc, fun i v hv => (dd i v hv).mono m⟩⟩
/-- no list and no tuple -/
def NoSeq (G : Addr → Obj → Prop) : Addr → Obj → Prop := fun a o => G a o ∧ o.cls ≠ .type "tuple" ∧ o.cls ≠ .type "list"
theorem NumG.noSeq {P : Params} {G : Addr → Obj → Prop} {v : Value} {x : Int} (D : NumG P G v x) : NumG P (NoSeq G) v x :=
  D.imp id fun ⟨a, d, t1, t2, t3, t4, q, h1, h2⟩ => ⟨a, d, t1, t2, t3, t4, q, ⟨h1, (fun e => nomatch e), (fun e => nomatch e)⟩, ⟨h2, (fun e => by simp [decD, dictOf] at e), (fun e => by simp [decD, dictOf] at e)⟩⟩
theorem gi_tup {g : Addr → Obj → Prop} {tl : List (Addr × Obj)} {a : Addr} {vs : List Value} (h : GI (NoSeq g) tl a (tupO vs)) : (a, tupO vs) ∈ tl := h.elim (fun h => absurd rfl h.2.1) id
theorem gi_lst {g : Addr → Obj → Prop} {tl : List (Addr × Obj)} {a : Addr} {vs : Array Value} {n : Nat} (h : GI (NoSeq g) tl a (W.listOf vs n)) : (a, W.listOf vs n) ∈ tl := h.elim (fun h => absurd rfl h.2.2) id
def bxL (ma mc me mb md mf a b c d : Int) : Int × Int × Int × Int := (bxl (ma * a + mc * b + me) (ma * c + mc * b + me) (ma * c + mc * d + me) (ma * a + mc * d + me), bxl (mb * a + md * b + mf) (mb * c + md * b + mf) (mb * c + md * d + mf) (mb * a + md * d + mf),
  bxh (ma * a + mc * b + me) (ma * c + mc * b + me) (ma * c + mc * d + me) (ma * a + mc * d + me), bxh (mb * a + md * b + mf) (mb * c + md * b + mf) (mb * c + md * d + mf) (mb * a + md * d + mf))

section
variable {prog : Program} {w : World} {p : Program} {loose : List Str} {mean : ExcName → Option Value} {mg mb : Str → Option Value} {g : Heap}

theorem c_rectH {G : Addr → Obj → Prop} (hG : ∀ a o, G a o → g.get? a = some o) {sv v : Value} (hS : ShelfG w.params (At g) sv) {c : Addr} {k : Nat} {x1 x2 x3 x4 : Int} {ns : Nat → Int} (hH : HeadAt prog w G v c k x1 x2 x3 x4 ns) :
    Pu prog w p loose mean mg mb 80 (.ref 466) [sv, v] g (fun tl v => BoxG w.params (GI G tl) v (min x1 x3) (min x2 x4) (max x1 x3) (max x2 x4)) := by
  refine ex9 hH ?_
  try clear hH
  intro d o r t e w1 w2 w3 w4 zz9
  refine and9 zz9 ?_
  try clear zz9
  intro e9r81 h2 h3 h4 n1 n2 n3 n4 h
  subst e9r81
  rcases h with ⟨-, hk⟩ | ⟨-, q, vs, e', hk, -⟩
  · exact c_rect hS (hG _ _ h2) hk h3 hG (r := r) rfl ⟨_, hG _ _ h4, rfl, _, rfl⟩ n1 n2 n3 n4
  · exact c_rect hS (hG _ _ h2) hk h3 hG (r := r) rfl ⟨_, hG _ _ h4, rfl, _, rfl⟩ n1 n2 n3 n4
theorem c_quadsH {G : Addr → Obj → Prop} (hG : ∀ a o, G a o → g.get? a = some o) {sv v : Value} (hS : ShelfG w.params (At g) sv) {c : Addr} {k : Nat} {x1 x2 x3 x4 : Int} {ns : Nat → Int} (hH : HeadAt prog w G v c k x1 x2 x3 x4 ns) :
    Pu prog w p loose mean mg mb 40 (.ref 471) [sv, v] g (fun tl v => QuadsG w.params (GI (NoSeq G) tl) v k ns) := by
  refine ex9 hH ?_
  try clear hH
  intro d o r t e w1 w2 w3 w4 zz9
  refine and9 zz9 ?_
  try clear zz9
  intro e9r82 h2 h3 h4 n1 n2 n3 n4 h
  subst e9r82
  rcases h with ⟨rfl, hk⟩ | ⟨hk12, q, vs, e', hk, hq, hl, hn⟩
  · exact c_quads_none hS (hG _ _ h2) hk h3 rfl
  · exact c_quads hS (hG _ _ h2) hk h3 (fun a o q => hG a o q.1) (r := q) rfl ⟨_, hG _ _ hq, rfl, _, rfl⟩ hk12 hl fun i v hv => (hn i v hv).noSeq
theorem c_movedH {sv v u : Value} (hS : ShelfG w.params (At g) sv) {c : Addr} {k : Nat} {x1 x2 x3 x4 : Int} {ns : Nat → Int} (hH : HeadAt prog w (At g) v c k x1 x2 x3 x4 ns) (m1 : Sm x1) (m2 : Sm x2) (m3 : Sm x3) (m4 : Sm x4) (hsm : ∀ i, Sm (ns i)) {na nb nc nd ne nf : Int} (hM : MatG w.params (At g) u na nb nc nd ne nf) :
    Pu prog w p loose mean mg mb 120 (.ref 478) [sv, v, u] g (fun tl v => HeadAt prog w (In tl) v c k (bxL na nc ne nb nd nf (min x1 x3) (min x2 x4) (max x1 x3) (max x2 x4)).1 (bxL na nc ne nb nd nf (min x1 x3) (min x2 x4) (max x1 x3) (max x2 x4)).2.1 (bxL na nc ne nb nd nf (min x1 x3) (min x2 x4) (max x1 x3) (max x2 x4)).2.2.1 (bxL na nc ne nb nd nf (min x1 x3) (min x2 x4) (max x1 x3) (max x2 x4)).2.2.2 (mvq na nb nc nd ne nf ns)) := by
  refine ex9 hH ?_
  try clear hH
  intro d o r t e w1 w2 w3 w4 zz9
  refine and9 zz9 ?_
  try clear zz9
  intro e9r83 h2 h3 h4 n1 n2 n3 n4 h
  subst e9r83
  rcases h with ⟨rfl, hk⟩ | ⟨hk12, q, vs, e', hk, hq, hl, hn⟩
  · refine Pu.weak (c_moved3 hS h2 hk h3 (fun _ _ q => q) ⟨_, h4, rfl, _, rfl⟩ n1 n2 n3 n4 m1 m2 m3 m4 hM) ?_
    rintro tl v ⟨d', o', l, rfl, hm, a, b, ⟨e1, u1, u2, u3, u4, hl, d1, d2, d3, d4⟩⟩
    exact ⟨d', o', l, t, e1, u1, u2, u3, u4, rfl, hm, a, hl, .inr d1, .inr d2, .inr d3, .inr d4, .inl ⟨rfl, b⟩⟩
  · refine Pu.weak (c_moved4 hS h2 hk h3 (fun _ _ q => q) ⟨_, h4, rfl, _, rfl⟩ n1 n2 n3 n4 m1 m2 m3 m4 hM ⟨_, hq, rfl, _, rfl⟩ hk12 hl hn hsm) ?_
    rintro tl v ⟨d', o', l, q', e2, vals, rfl, hm, a, b, ⟨e1, u1, u2, u3, u4, hl, d1, d2, d3, d4⟩, hq', hlen, hd⟩
    exact ⟨d', o', l, t, e1, u1, u2, u3, u4, rfl, hm, a, hl, .inr d1, .inr d2, .inr d3, .inr d4, .inr ⟨hk12, q', vals, e2, b, hq', by rw [List.size_toArray, hlen], fun i v hv => .inr (hd i v (by simpa using hv))⟩⟩
end
end


-- QzF23
local macro_rules | `(tactic| walk_at "getMethod ref") => `(tactic| (k_here; refine stop9 ?_))
local macro_rules | `(tactic| walk_at "getMethod") => `(tactic| (k_here; refine stop9 ?_))
section
open PyProof.Rows.LCg PyProof.Rows.LCp

def tDat (x : Int) : Dat := .tuple [.int x, .int 0]
def pDat (x y : Int) : Dat := .tuple [tDat x, tDat y]
def qDat (ns : Nat → Int) : Dat := .list [pDat (ns 0) (ns 1), pDat (ns 2) (ns 3), pDat (ns 4) (ns 5), pDat (ns 6) (ns 7)]
def qsDat (k : Nat) (ns : Nat → Int) : Dat := .list ((List.range k).map fun i => qDat fun j => ns (8 * i + j))
def sDat (a b c d : Int) : Dat := .list [tDat a, tDat b, tDat c, tDat d]
def nDat (a b c d : Int) (k : Nat) (ns : Nat → Int) : Dat := .tuple [sDat a b c d, qsDat k ns]
theorem tDat_of {tl : List (Addr × Obj)} {y : Value} {x : Int} (o : OTup2 x 0 tl y) : DatIn tl y (tDat x) := by
  cases o with
  | mk a t1 t2 => exact .tuple (vs := [.int x t1, .int 0 t2]) (.head _) (.cons (.int _ _) (.cons (.int _ _) .nil))
theorem datAll_of {tl : List (Addr × Obj)} : ∀ {ys : List Value} {f : Nat → Dat} {n i : Nat}, ys.length = n → (∀ j y, ys[j]? = some y → DatIn tl y (f (i + j))) → DatAll tl ys ((List.range' i n).map f)
  | [], f, n, i, hl, h => by subst hl; exact .nil
  | y :: ys, f, n, i, hl, h => by
    subst hl
    rw [List.length_cons, List.range'_succ, List.map_cons]
    exact .cons (h 0 y rfl) (datAll_of rfl fun j z hz => by have := h (j + 1) z hz; rwa [show i + (j + 1) = i + 1 + j by omega] at this)
theorem dat_all {tl all : List (Addr × Obj)} {ys : List Value} {f : Nat → Dat} {n : Nat} (h : AllOut (fun i t y => DatIn t y (f i)) n ys tl) (s : ∀ p ∈ tl, p ∈ all) : DatAll all ys ((List.range n).map f) := by
  rw [List.range_eq_range']
  refine datAll_of h.1 fun j y hy => ?_
  refine ex1 (h.2 j y hy) ?_
  intro t zz9
  refine and2 zz9 ?_
  try clear zz9
  intro ht hd
  rw [Nat.zero_add]
  exact hd.mono fun p hp => s p (ht p hp)
theorem dec4 {P : Params} {G : Addr → Obj → Prop} {b1 b2 b3 b4 : Value} {f : Nat → Int} (d1 : DecG P G b1 (f 0)) (d2 : DecG P G b2 (f 1)) (d3 : DecG P G b3 (f 2)) (d4 : DecG P G b4 (f 3)) : ∀ i v, (#[b1, b2, b3, b4] : Array Value)[i]? = some v → DecG P G v (f i) := by
  intro i v hv
  match i, hv with
  | 0, hv => cases hv; exact d1
  | 1, hv => cases hv; exact d2
  | 2, hv => cases hv; exact d3
  | 3, hv => cases hv; exact d4
theorem keepQ9 {a : Addr × Obj} {tq r : List (Addr × Obj)} (l : ∀ q ∈ tq, ∀ p ∈ a :: r, p.1 ≠ q.1) : ∀ q ∈ tq, a.1 ≠ q.1 := fun q hq => l q hq a (.head _)
theorem method_told {prog : Program} {w : World} {A : Around} {E : Value → Shared → Prop} {s : Shared} {h₀ : Heap} {L : Addr} {m : Str → Option Value} {v : Value} {n : Int} {pl : Sem Bool} {Q : Value × List Value → Shared → Prop} (F : Fr h₀ L s.heap m) (X₀ : (hd.heap_39 w.params).In h₀) (D : DecAt w.params s.heap v n)
    (h : Q (.ref 138, [v]) s) : wpAny (model prog w) A (getMethod v (Str.ofString "told") pl) Q E s := by
  refine ex6 (D.raw) ?_
  intro a d t1 t2 t3 t4 zz9
  refine and3 zz9 ?_
  try clear zz9
  intro e9r84 h1 h2
  subst e9r84
  k_dflt (refine' method_inst F X₀ (W.InstAt.mk h1 rfl rfl h2) ?k4 ?k5 ?k6 ?k7 h; (case k4 => k_is); (case k5 => k_is); (case k6 => k_is); (case k7 => k_get))

section
variable {prog : Program} {w : World} {p : Program} {loose : List Str} {mean : ExcName → Option Value} {mg mb : Str → Option Value} {g : Heap}
local macro_rules | `(tactic| walk_at "call ref") => `(tactic| (k_here; (with_reducible show wpAny _ _ (call (Value.ref 138) _) _ _ _); refine stop9 ?_))

set_option maxHeartbeats 8000000 in
theorem c_numbers {sv v : Value} (hS : ShelfG w.params (At g) sv) {c : Addr} {k : Nat} {x1 x2 x3 x4 : Int} {ns : Nat → Int} (hH : HeadAt prog w (At g) v c k x1 x2 x3 x4 ns) (hk2 : k ≤ 2) : Pu prog w p loose mean mg mb 120 (.ref 514) [sv, v] g (fun tl u => DatIn tl u (nDat (min x1 x3) (min x2 x4) (max x1 x3) (max x2 x4) k ns)) := by
  have hS0 := hS
  refine ShelfG.rawC hS0 ?_
  intro xS dS tS1 tS2 uS1 uS2 e9r85 gS1 gS2
  subst e9r85
  have hH0 := hH
  refine ex9 hH0 ?_
  try clear hH0
  intro ha o r t e w1 w2 w3 w4 zz9
  refine and2 zz9 ?_
  try clear zz9
  intro e9r86 zz8
  subst e9r86
  clear zz8
  intro dp un gd cn cs a ccd cl outer A₀ base h₀ L m gens drawn toks os Q E B F X T hk hd hu hret
  refine wpAny_call ?_
  k_dflt (refine' enterP (binds := [(Str.ofString "shelf", .ref xS), (Str.ofString "head", .ref ha)]) ?k1 ?k2 ?k3 ?k5 ?kA ?kF ?kK ?k6 ?k7 ?k8 ?k9 ?kB ?_ ?c2 ?c3 ?c4 ?c5)
  walk_at "QZ enter1"
  intro L' h' F' B' X' T'
  have N' := News.nil (h₀ := g) (h := h') (L := L')
  dsimp only at F' B' X' T'
  clear B F X T
  show wpAny _ _ _ _ _ _
  k_fold
  k_steps
  refine .go ?_
  refine Assign_ListComp_I (by k_asm) (by rfl) (by with_unfolding_all rfl) (by with_unfolding_all rfl) (by decide) (by rfl) (by decide) (by rfl) (by rfl) (by rfl) ?_
  k_steps
  refine .go ?_
  (refine' usePu (c_rectH (G := At g) (Fr.keep (by k_asm)) (ShelfG.base (by k_asm) hS) hH) ?q1 ?q2 ?q3 ?q4 ?q5 ?q6 ?q7 ?q8 ?_; walk_at "QZ use")
  intro v9 h9 tk9 tlr o9 F9 N9 l9
  refine BoxG.el (o9) ?_
  try clear o9
  intro tB b1 b2 b3 b4 e9r87 hB d1 d2 d3 d4
  subst e9r87
  have hGr : ∀ a o, GI (At g) tlr a o → h9.get? a = some o := hGI (fun _ _ q => q) F9 N9 (fun p hp => List.mem_append.mpr (.inl hp))
  clear l9
  k_steps
  refine .go ?_
  have hTB : TupAt g tB #[b1, b2, b3, b4] (tlr ++ []) := hB.elim (fun q => .inl ⟨_, q, rfl, _, rfl⟩) fun q => .inr ⟨_, List.mem_append.mpr (.inl q), rfl, _, rfl⟩
  let ss : Nat → Int := fun i => if i = 0 then min x1 x3 else if i = 1 then min x2 x4 else if i = 2 then max x1 x3 else max x2 x4
  have hds : ∀ i v, (#[b1, b2, b3, b4] : Array Value)[i]? = some v → DecG w.params (GI (At g) tlr) v (ss i) := dec4 (f := ss) d1 d2 d3 d4
  refine srcI (Out := fun i tl y => DatIn tl y (tDat (ss i))) (ItSrc.tuple rfl F9 N9 hTB (Nat.le_of_ble_eq_true rfl)) (tup_mono hTB) ?el ?fin
  case el =>
    intro g1 i v hi hv C oC m₂ h tk nw E' hC hx F' N'
    have hGe : ∀ a o, GI (At g) tlr a o → h.get? a = some o := hGI (fun _ _ q => q) F' N' (fun p hp => .tail _ (List.mem_append.mpr (.inl (List.mem_append.mpr (.inl hp)))))
    have D := (hds i v hv).mono hGe
    k_steps
    refine .go ?_
    refine method_told F' (by k_asm) D ?_
    k_steps
    refine .go ?_
    (refine' usePu (c_Dtold D) ?q1 ?q2 ?q3 ?q4 ?q5 ?q6 ?q7 ?q8 ?_; walk_at "QZ use")
    intro v9 h9 tk9 tl9 o9 F9 N9 l9
    exact ElEnd.call (tDat_of o9) F9 N9 l9
  case fin =>
  intro g1
  refine AfterA.fin ?_
  intro D1 h1 tk1 ys tl1 hA F' N' off
  have hD1 : DatIn ((D1, lst ys) :: tl1) (.ref D1) (sDat (min x1 x3) (min x2 x4) (max x1 x3) (max x2 x4)) := .list (.head _) (dat_all hA fun p hp => .tail _ hp)
  clear hA hTB hds hGr d1 d2 d3 d4 hB off
  replace N' : News _ _ _ ((D1, lst ys) :: tl1) := fun p hp => N' p ((List.mem_cons.mp hp).elim (fun e => e ▸ .head _) fun h => .tail _ (List.mem_append.mpr (.inl h)))
  k_steps
  refine .go ?_
  refine ListComp_U (F₀ := by k_asm) (by with_unfolding_all rfl) (by decide) (by rfl) (by decide) (by rfl) ?_
  k_steps
  refine .go ?_
  (refine' usePu (c_quadsH (G := At g) (Fr.keep (by k_asm)) (ShelfG.base (by k_asm) hS) hH) ?q1 ?q2 ?q3 ?q4 ?q5 ?q6 ?q7 ?q8 ?_; walk_at "QZ use")
  intro v9 h9 tk9 tlq o9 F9 N9 l9
  refine ex3 o9 ?_
  try clear o9
  intro lQ qs nq zz9
  refine and4 zz9 ?_
  try clear zz9
  intro e9r88 hQ hql hqa
  subst e9r88
  replace hQ := gi_lst hQ
  have lQ1 := keepQ9 l9
  k_steps
  refine .go ?_
  refine srcU (its := qs.toArray) (Out := fun i tl y => DatIn tl y (qDat fun j => ns (8 * i + j))) rfl (by k_asm) N9 (.inr ⟨_, List.mem_append.mpr (.inl hQ), rfl, _, rfl⟩) (by rw [List.size_toArray, hql, sizeLine_eq]; omega) ?el ?fin
  case el =>
    intro g1 i v hi hv C oC m₂ h tk nw E' hC hx F' N'
    refine ex3 (hqa i v (by simpa using hv)) ?_
    intro q1 ps n1 zz9
    refine and4 zz9 ?_
    try clear zz9
    intro e9r89 hq1 hpl hpa
    subst e9r89
    replace hq1 := gi_lst hq1
    have sq : ∀ p ∈ tlq, p ∈ (C, oC) :: ((tlq ++ (D1, lst ys) :: tl1) ++ nw) := fun p hp => .tail _ (List.mem_append.mpr (.inl (List.mem_append.mpr (.inl hp))))
    k_steps
    refine .go ?_
    refine LCp.ListComp_P (F₀ := by k_asm) (by with_unfolding_all rfl) (by decide) (by rfl) (by decide) (by rfl) (by rfl) (by decide) ?_
    k_steps
    refine .go ?_
    refine srcP (its := ps.toArray) (Out := fun j tl y => DatIn tl y (pDat (ns (8 * i + 2 * j)) (ns (8 * i + (2 * j + 1))))) rfl F' N' (.inr ⟨_, sq _ hq1, rfl, _, rfl⟩) (by rw [List.size_toArray, hpl]; exact Nat.le_of_ble_eq_true rfl) ?el2 ?fin2
    case el2 =>
      intro g2 j v2 hj hv2
      refine ex3 (hpa j v2 (by simpa using hv2)) ?_
      intro q2 a1 a2 zz9
      refine and4 zz9 ?_
      try clear zz9
      intro e9r90 hq2 da db
      subst e9r90
      refine ⟨q2, a1, a2, 0, rfl, sq _ (gi_tup hq2), ?_⟩
      intro C2 oC2 m3 h2 tk2 nw2 E2 hC2 hx hx2 F'' N''
      have hGe : ∀ a o, GI (NoSeq (At g)) tlq a o → h2.get? a = some o := hGI (fun _ _ q => q.1) F'' N'' (fun p hp => .tail _ (List.mem_append.mpr (.inl (sq p hp))))
      k_steps
      refine .go ?_
      refine method_told F'' (by k_asm) (da.mono hGe) ?_
      k_steps
      refine .go ?_
      (refine' usePu (c_Dtold (da.mono hGe)) ?q1 ?q2 ?q3 ?q4 ?q5 ?q6 ?q7 ?q8 ?_; walk_at "QZ use")
      intro v9 h9 tk9 tlA oA F9 N9 lA
      have hGe2 : ∀ a o, GI (NoSeq (At g)) tlq a o → h9.get? a = some o := hGI (fun _ _ q => q.1) F9 N9 (fun p hp => List.mem_append.mpr (.inr (.tail _ (List.mem_append.mpr (.inl (sq p hp))))))
      clear hGe
      k_steps
      refine .go ?_
      refine method_told F9 (by k_asm) (db.mono hGe2) ?_
      k_steps
      refine .go ?_
      (refine' usePu (c_Dtold (db.mono hGe2)) ?q1 ?q2 ?q3 ?q4 ?q5 ?q6 ?q7 ?q8 ?_; walk_at "QZ use")
      intro v8 h8 tk8 tlB oB F8 N8 lB
      clear hGe2
      k_steps
      refine ElEnd.pair (by k_asm) (by k_asm) (by assumption) lA lB ?_
      exact .tuple (vs := [v9, v8]) (.head _) (.cons ((tDat_of oA).mono fun p hp => .tail _ (List.mem_append.mpr (.inr hp))) (.cons ((tDat_of oB).mono fun p hp => .tail _ (List.mem_append.mpr (.inl hp))) .nil))
    case fin2 =>
      intro g2
      refine AfterE.fin ?_
      intro D2 h2 tk2 zs tl2 hA2 F2 N2 off2
      rw [List.size_toArray, hpl] at hA2
      refine ElEnd.intro (tl := (D2, lst zs) :: tl2) F2 N2 (.list (.head _) (dat_all hA2 fun p hp => .tail _ hp)) (fun p hp => (List.mem_cons.mp hp).elim (fun e => e ▸ .head _) fun h => .tail _ (List.mem_append.mpr (.inl h))) (fun p hp => .tail _ (List.mem_append.mpr (.inr (.tail _ (List.mem_append.mpr (.inr hp)))))) ?_
      intro q hq p hp
      rcases List.mem_cons.mp hq with rfl | hq
      · exact off2.1 p (List.mem_append.mpr (.inr (.tail _ (List.mem_append.mpr (.inr hp)))))
      · exact off2.2 q hq p (.tail _ (List.mem_append.mpr (.inr hp)))
  case fin =>
  intro g1
  refine AfterE.fin ?_
  intro D2 h2 tk2 zs tl2 hA2 F2 N2 off2
  rw [List.size_toArray, hql] at hA2
  have hD2 : DatIn ((D2, lst zs) :: tl2) (.ref D2) (qsDat k ns) := .list (.head _) (dat_all (f := fun i => qDat fun j => ns (8 * i + j)) hA2 fun p hp => .tail _ hp)
  clear hA2 off2 hqa hQ lQ1 l9
  k_steps
  refine hret _ _ _ _ (by walk_at "QZ ext") (newIn_of (by k_asm) (fun _ h => h)) (.tuple (vs := [.ref D1, .ref D2]) (.head _) (.cons (hD1.mono fun p hp => ?_) (.cons (hD2.mono fun p hp => ?_) .nil)))
  · exact .tail _ (.tail _ (List.mem_append.mpr (.inr (List.mem_append.mpr (.inr hp)))))
  · exact .tail _ ((List.mem_cons.mp hp).elim (fun e => e ▸ .head _) fun h => .tail _ (List.mem_append.mpr (.inl h)))

end
end


-- QzPen

section
open PyProof.Rows.LCg PyProof.Rows.LCp
/-- a pen over the cells I, its spot at most b -/
def Pen (I : Addr) (b : Int) (oc : Obj) : Prop := ∃ sp rs t u e, oc = penO I sp rs t u e ∧ 0 ≤ sp ∧ sp ≤ b
def Cells (g : Heap) (I : Addr) : Prop := ∃ vs ns, g.IsList I vs.toArray ∧ IntsAre vs ns ∧ ns.length ≤ 40
theorem Pen.le {I : Addr} {b c : Int} {oc : Obj} (h : Pen I b oc) (e : b ≤ c) : Pen I c oc := by
  refine ex5 h ?_
  try clear h
  intro sp rs t u e' zz9
  refine and3 zz9 ?_
  try clear zz9
  intro h1 h2 h3
  exact ⟨sp, rs, t, u, e', h1, h2, by omega⟩
theorem Cells.base {g h : Heap} {L I : Addr} {m : Str → Option Value} (F : Fr g L h m) (c : Cells g I) : Cells h I := by
  refine ex2 c ?_
  try clear c
  intro vs ns zz9
  refine and3 zz9 ?_
  try clear zz9
  intro h1 h2 h3
  exact ⟨vs, ns, Fr.lst F h1, h2, h3⟩
theorem Cells.off {g g' : Heap} {P I : Addr} (hk : ∀ b o, b ∉ [P] → g.get? b = some o → g'.get? b = some o) (hPI : I ≠ P) (c : Cells g I) : Cells g' I := by
  refine ex2 c ?_
  try clear c
  intro vs ns zz9
  refine and3 zz9 ?_
  try clear zz9
  intro n9r91 h2 h3
  obtain ⟨o, ho, hr⟩ := n9r91
  exact ⟨vs, ns, ⟨o, hk _ _ (by simpa using hPI) ho, hr⟩, h2, h3⟩
theorem c_drawP {prog : Program} {w : World} {p : Program} {loose : List Str} {mean : ExcName → Option Value} {mg mb : Str → Option Value} {g : Heap} {P I : Addr} {oc : Obj} {b many : Int} {tm : Tok} (hI : Cells g I) (hp : Pen I b oc) (hb : b ≤ 100) (hm : 0 < many) (hm2 : many ≤ 100) (hPI : I ≠ P) :
    PuM prog w p loose mean mg mb 20 (.ref 490) [.ref P, .int many tm] g P oc (fun oc' tl v => Pen I (b + 1) oc' ∧ tl = [] ∧ ∃ r t, v = .int r t ∧ 0 ≤ r ∧ r < many) := by
  refine ex2 hI ?_
  try clear hI
  intro vs ns zz9
  refine and3 zz9 ?_
  try clear zz9
  intro h1 h2 h3
  refine ex5 hp ?_
  try clear hp
  intro sp rs t u e' zz9
  refine and3 zz9 ?_
  try clear zz9
  intro e9r92 h4 h5
  subst e9r92
  intro dp un gd cn cs a ccd cl outer A₀ base h₀ L m gens drawn toks os Q E B F N X T hk hd hu hret
  refine c_draw h1 h2 h3 h4 (by omega) hm hm2 hPI _ _ _ _ _ _ _ _ _ _ _ _ _ _ _ _ _ _ _ _ B F N X T hk hd hu fun v h' tk' oc' tl e1 e2 e3 o => hret v h' tk' oc' tl e1 e2 e3 ?_
  refine ex7 o ?_
  try clear o
  intro sp' rs' t u e r t' zz9
  refine and7 zz9 ?_
  try clear zz9
  intro a1 a2 a3 a4 a5 a6 a7
  exact ⟨⟨sp', rs', t, u, e, a1, by omega, by omega⟩, a4, r, t', a5, a6, a7⟩

def EndM (h₀ : Heap) (L : Addr) (m : Str → Option Value) (s : Shared) (C : Addr) (oC : Obj) (P : Addr) (nw : List (Addr × Obj)) (Out : Obj → Value → Prop) (y : Value) (s' : Shared) : Prop :=
  ∃ h' tk' oc', s' = { s with heap := h', toks := tk' } ∧ Fr h₀ L h' m ∧ News h₀ L h' ((C, oC) :: (P, oc') :: nw) ∧ Out oc' y
theorem EndM.intro {h₀ : Heap} {L : Addr} {m : Str → Option Value} {s : Shared} {C : Addr} {oC : Obj} {P : Addr} {nw : List (Addr × Obj)} {Out : Obj → Value → Prop} {y : Value} {h' : Heap} {tk' : Nat} {oc' : Obj} (F : Fr h₀ L h' m) (N : News h₀ L h' ((C, oC) :: (P, oc') :: nw)) (o : Out oc' y) :
    EndM h₀ L m s C oC P nw Out y { s with heap := h', toks := tk' } := ⟨h', tk', oc', rfl, F, N, o⟩
/-- an element that turns the pen -/
def ElM (prog : Program) (w : World) (A : Around) (h₀ : Heap) (L : Addr) (m : Str → Option Value) (env : Env) (elt : Expr) (x : Str) (scope : Scope) (cl : List (Str × Addr)) (s : Shared) (P : Addr) (oc : Obj) (nw0 : List (Addr × Obj)) (v : Value) (Out : Obj → Value → Prop) : Prop :=
  ∀ (C : Addr) (oC : Obj) (m₂ : Str → Option Value) (h : Heap) (tk : Nat) (nw : List (Addr × Obj)) (E' : Value → Shared → Prop), NsObj oC m₂ → m₂ x = some v → Fr h₀ L h m → News h₀ L h ((C, oC) :: (P, oc) :: (nw0 ++ nw)) → (∀ p ∈ nw0 ++ nw, p.1 ≠ P) → C ≠ P →
    wpAny (model prog w) A (eval elt (compEnvC scope cl C env)) (EndM h₀ L m s C oC P (nw0 ++ nw) Out) E' { s with heap := h, toks := tk }
section
variable {prog : Program} {w : World} {A : Around} {s : Shared} {h₀ : Heap} {L : Addr} {m : Str → Option Value} {env : Env}
theorem rest_M {elt : Expr} {x : Str} {scope : Scope} {cl : List (Str × Addr)} {n : Nat} {Pp : Nat → Value → Prop} {Fin : List Value → List (Addr × Obj) → Prop} {P : Addr} {oc0 : Obj} {nw0 : List (Addr × Obj)} (inv : Nat → Obj → Prop) (val : Nat → Value → Prop)
    (hne : ∀ p ∈ nw0, p.1 ≠ P) (h0 : inv 0 oc0) (el : ∀ i v oc, i < n → Pp i v → inv i oc → ElM prog w A h₀ L m env elt x scope cl s P oc nw0 v (fun oc' y => inv (i + 1) oc' ∧ val i y))
    (fin : ∀ ys oc, ys.length = n → (∀ i y, ys[i]? = some y → val i y) → inv n oc → Fin ys ((P, oc) :: nw0)) : CompRest prog w A h₀ L m env elt x scope cl s (fun _ => True) Pp Fin n 0 [] ((P, oc0) :: nw0) := by
  have key : ∀ k i ys oc, i + k = n → ys.length = i → (∀ i y, ys[i]? = some y → val i y) → inv i oc → CompRest prog w A h₀ L m env elt x scope cl s (fun _ => True) Pp Fin k i ys ((P, oc) :: nw0) := by
    intro k
    induction k with
    | zero => intro i ys oc e hl hv hi; obtain rfl : i = n := by omega
              exact CompRest.zero (fin ys oc hl hv hi)
    | succ k ih =>
      intro i ys oc e hl hv hi
      refine CompRest.succ ?_
      intro v I oI C oC D m₂ h tk E' hP hC hx F N off ne
      have off3 := off.mem
      have oP := off3 (P, oc) (.head _)
      refine wpAny_mono (el i v oc (by omega) hP hi C oC m₂ h tk [(I, oI), (D, lst ys)] E' hC hx F (fun p hp => N p ?_) ?_ (Ne.symm oP.2.1)) (fun y s' he => ?_) fun _ _ e => e
      · simp only [List.mem_cons, List.mem_append, List.not_mem_nil, or_false] at hp ⊢
        rcases hp with h | h | h | h | h <;> simp [h]
      · intro p hp
        simp only [List.mem_cons, List.mem_append, List.not_mem_nil, or_false] at hp
        rcases hp with h | rfl | rfl
        · exact hne p h
        · exact Ne.symm oP.1
        · exact Ne.symm oP.2.2
      · refine ex3 he ?_
        try clear he
        intro h' tk' oc' zz9
        refine and5 zz9 ?_
        try clear zz9
        intro e9r93 F' N' hi' hval
        subst e9r93
        refine ⟨h', tk', (P, oc') :: nw0, rfl, F', fun p hp => N' p ?_, Off3.of fun p hp => ?_, trivial, ?_⟩
        · simp only [List.mem_cons, List.mem_append, List.not_mem_nil, or_false] at hp ⊢
          rcases hp with h | h | h | h | h <;> simp [h]
        · rcases List.mem_cons.mp hp with rfl | hp
          · exact oP
          · exact off3 p (.tail _ hp)
        · refine ih (i + 1) _ oc' (by omega) (by rw [List.length_append, List.length_singleton, hl]) (fun j z hz => ?_) hi'
          by_cases hj : j < ys.length
          · rw [List.getElem?_append_left hj] at hz; exact hv j z hz
          · rw [List.getElem?_append_right (Nat.le_of_not_lt hj)] at hz
            have : j = i := by
              have := (List.getElem?_eq_some_iff.mp hz).1
              simp at this
              omega
            subst this
            rw [hl, Nat.sub_self] at hz
            cases hz
            exact hval
  exact key n 0 [] oc0 (by omega) rfl (fun i y h => by simp at h) h0
theorem srcM {elt : Expr} {x : Str} {scope : Scope} {cl : List (Str × Addr)} {Fin : Shared → List Value → List (Addr × Obj) → Prop} {r : Addr} {b : Int} {t u v : Tok} {n : Nat} {s₁ : Shared} {P : Addr} {oc0 : Obj} {nw0 : List (Addr × Obj)} (inv : Nat → Obj → Prop) (val : Nat → Value → Prop)
    (hh : A.handled = none) (F : Fr h₀ L s₁.heap m) (N : News h₀ L s₁.heap ((P, oc0) :: nw0)) (hr : IsRange s₁.heap r 0 b 1 t u v) (hsm : Builtin.Range.small 0 b 1 = true) (hn : Builtin.Range.rangeSize 0 b 1 = ((n : Nat) : Int)) (hsz : n ≤ sizeLine)
    (hne : ∀ p ∈ nw0, p.1 ≠ P) (h0 : inv 0 oc0) (el : ∀ g i v oc, i < n → inv i oc → ElM prog w A h₀ L m env elt x scope cl { s₁ with heap := g } P oc nw0 v (fun oc' y => inv (i + 1) oc' ∧ val i y))
    (fin : ∀ g ys oc, ys.length = n → (∀ i y, ys[i]? = some y → val i y) → inv n oc → Fin { s₁ with heap := g } ys ((P, oc) :: nw0)) : CompSrc prog w A h₀ L m env elt x scope cl Fin (.ref r) s₁ :=
  .inr ⟨r, 0, b, t, u, v, n, _, rfl, hh, F, N, hr, hsm, hn, hsz, fun _ ⟨g, e⟩ => e ▸ rest_M inv val hne h0 (fun i v oc hi _ => el g i v oc hi) (fin g)⟩
end

section
variable {prog : Program} {w : World} {A A₀ : Around} {s : Shared} {K : Frag} {base h₀ : Heap} {L f : Addr} {m mg mb : Str → Option Value} {p : Program} {loose : List Str} {mean : ExcName → Option Value}
  {env : Env} {outer : List Env} {R : Result → Shared → Prop} {name qual : Str} {params : Arguments} {body : List Stmt} {scope : Scope} {dV kV doc pm cdv ct oc : Value} {an od : Option Addr} {osl : Array (Option Value)} {args : Args} {binds : List (Str × Value)}
/-- a call of a def with cells whose ledger is hidden from what the callee must keep -/
theorem enterHC {news : List (Addr × Obj)} (B : Below A₀ base outer h₀) (F : Fr h₀ L s.heap m) (X₀ : K.In h₀) (N : News h₀ L s.heap news) (T : Top p loose mean mg mb h₀) (hA : A.frames = some (env :: outer)) (hf : env.frame = some L) (hke : env.scope.kind = .function)
    (ho : K.lookup f = some ⟨oc, od, .func (fnOf name qual params body scope dV kV doc pm an cdv ct), osl⟩) (hcd : codeIn K cdv qual = true) (hroom : A.depth < recursionLimit)
    (hbind : BindsTo s (fnOf name qual params body scope dV kV doc pm an cdv ct) args binds) (hkind : (binds.all fun y => scope.names.lookup y.1 == some .local || scope.names.lookup y.1 == some .cell) = true)
    (hnd : ((cellsFrom 0 scope.names []).map (·.1)).Nodup)
    (h : ∀ g L' h₁ tk cells, (∀ b o, b ∉ news.map (·.1) → s.heap.get? b = some o → g.get? b = some o) → Fr g L' h₁ (bindL (envOfC qual scope L' f cdv).kindOf binds fun _ => none) → News g L' h₁ (cells ++ news) →
      CellsAre (bindC (envOfC qual scope L' f cdv).kindOf binds fun _ => none) (cellsFrom (L' + 1) scope.names []) cells → Below A base (env :: outer) g → K.In g → Top p loose mean mg mb g → (∀ q ∈ cells, ∀ p ∈ news, p.1 ≠ q.1) →
      wpAny (model prog w) (A.deeper (envOfC qual scope L' f cdv)) (execs body (envOfC qual scope L' f cdv))
        (fun fl s' => R (.ok (.ret (match fl with | .ret v => v | _ => .none))) s')
        (fun e s' => wpAny (model prog w) (A.deeper (envOfC qual scope L' f cdv)) (leaving (envOfC qual scope L' f cdv) e) (fun _ s'' => R (.error e) s'') (fun e' s'' => R (.error e') s'') s')
        { s with heap := h₁, toks := tk })
    (hco : scope.isCoroutine = false) (hgen : scope.isGenerator = false) (hk : scope.kind = .function) : codeAny (model prog w) A (.call (.ref f) args) R s := by
  refine and4 (groundX (R := R) B F N hA hf hke) ?_
  intro FG BG st _
  refine codeAny_call_function hroom ((X₀.keeps F.keep) _ _ ho) rfl hco hgen rfl (codeRec_of (X₀.keeps F.keep) hcd) (hbind _ _ _ _ ?_)
  refine wpAny_newFunctionEnv_cells hk (kindsX hkind _) fun env' he s' x => ?_
  subst he
  refine ⟨(T.nolimit.keeps F.keep).keeps x.toInCall.keep, codeAny_func ?_⟩
  refine ex2 (x.done) ?_
  intro h₁ tk zz9
  refine and2 zz9 ?_
  try clear zz9
  intro e9r94 _
  subst e9r94
  refine ex1 (Cl.news (h₀ := s.heap) (Nat.le_refl _) fun n c hm => ⟨x.cell n c (lookup_of_mem_nodup (cellsFrom_names scope.names 0 (s.heap.objs.size + 1) [] [] rfl ▸ hnd) hm), x.above n c hm⟩) ?_
  intro cells zz9
  refine and2 zz9 ?_
  try clear zz9
  intro NC Y
  refine h _ _ h₁ tk cells (fun b o hb e => hideAll_get _ e hb) ⟨x.toInCall.ns, fun b o e => x.toInCall.keep b o (of_hideAll _ e), Nat.le_of_eq (hideAll_size _ _)⟩ (fun p hp => ?_) Y BG (X₀.keeps st) (T.keeps st) fun q hq p hp e => ?_
  · rcases List.mem_append.mp hp with hp | hp
    · refine ⟨(NC p hp).1, (NC p hp).2.1, ?_⟩
      cases e : (hideAll s.heap (news.map (·.1))).get? p.1 with
      | none => rfl
      | some o => have := (NC p hp).2.2; rw [of_hideAll _ e] at this; cases this
    · exact ⟨x.toInCall.keep _ _ (N p hp).1, Nat.ne_of_lt (Heap.lt_size (N p hp).1), hideAll_none _ (List.mem_map_of_mem hp)⟩
  · have := (NC q hq).2.2
    rw [← e, (N p hp).1] at this; cases this
end
theorem item4 {prog : Program} {w : World} {A : Around} {E : Value → Shared → Prop} {Q : Value → Shared → Prop} {s : Shared} {value slice : Expr} {l : Addr} {a1 a2 a3 a4 k : Int} {t1 t2 t3 t4 u : Tok} (hl : s.heap.IsList l #[.int a1 t1, .int a2 t2, .int a3 t3, .int a4 t4]) (h0 : 0 ≤ k) (hk : k < 4)
    (h : ∀ r t, (r = a1 ∨ r = a2 ∨ r = a3 ∨ r = a4) → Q (.int r t) s)
    (hs : subscripted slice false (.ref l) (.int k u) = operate [.ref l, .int k u] (getItem (.ref l) (.int k u)) := by with_unfolding_all rfl) (hg : ∀ r, letTemporaryGo value (.ref l) r = pure () := by intro _; with_unfolding_all rfl) :
    wpAny (model prog w) A (subscriptTail value slice (.ref l) (.int k u)) Q E s := by
  obtain ⟨n, rfl⟩ : ∃ n : Nat, k = n := ⟨k.toNat, by omega⟩
  match n, hk with
  | 0, _ => exact item_list hl h0 (by omega) rfl (h _ _ (.inl rfl)) hs hg
  | 1, _ => exact item_list hl h0 (by omega) rfl (h _ _ (.inr (.inl rfl))) hs hg
  | 2, _ => exact item_list hl h0 (by omega) rfl (h _ _ (.inr (.inr (.inl rfl)))) hs hg
  | 3, _ => exact item_list hl h0 (by omega) rfl (h _ _ (.inr (.inr (.inr rfl)))) hs hg
  | n + 4, h => exact absurd h (by omega)
/-- a straight matrix -/
def Straight (a b c d : Int) : Prop := (b = 0 ∧ c = 0) ∨ (a = 0 ∧ d = 0)
theorem usePuW {prog : Program} {w : World} {p : Program} {loose : List Str} {mean : ExcName → Option Value} {mg mb : Str → Option Value} {dep : Nat} {f : Value} {vs : List Value} {s : Shared} {c : Addr} {oc : Obj}
    {I : Addr} {b1 many : Int} {G : Obj → List (Addr × Obj)}
    {dp un : Nat} {gd : Option (List Code)} {cn : Str} {cs : Scope} {a : Addr} {ccd : Value} {cl : List (Str × Addr)} {outer : List Env} {A₀ : Around} {base h₀ : Heap} {L : Addr} {m : Str → Option Value}
    {Q E : Value → Shared → Prop} {news : List (Addr × Obj)}
    (C : PuM prog w p loose mean mg mb dep f vs s.heap c oc (fun oc' tl v => Pen I b1 oc' ∧ tl = [] ∧ ∃ r t, v = .int r t ∧ 0 ≤ r ∧ r < many)) (U : UpdF c oc news G)
    (B : Below A₀ base outer h₀) (F : Fr h₀ L s.heap m) (X : (hd.heap_39 w.params).In h₀) (N : News h₀ L s.heap news) (T : Top p loose mean mg mb h₀) (hk : cs.kind = .function)
    (hd : dp + dep < recursionLimit) (hu : un + 8 * dep < cLine)
    (h : ∀ r t h' tk' oc', Pen I b1 oc' → 0 ≤ r → r < many → Fr h₀ L h' m → News h₀ L h' (G oc') → Q (.int r t) { s with heap := h', toks := tk' }) :
    wpAny (model prog w) (ktrTop dp un gd cn cs L a ccd cl outer) (call f vs) Q E s := usePuM C U B F X N T hk hd hu fun v h' tk' oc' tl o F9 N9 l9 => by
  refine and3 o ?_
  intro h1 e o2
  subst e
  refine ex2 o2 ?_
  intro r t o3
  refine and3 o3 ?_
  intro e2 h2 h3
  subst e2
  exact h r t h' tk' oc' h1 h2 h3 F9 N9
theorem usePuK {prog : Program} {w : World} {p : Program} {loose : List Str} {mean : ExcName → Option Value} {mg mb : Str → Option Value} {dep : Nat} {f : Value} {vs : List Value} {s : Shared} {c : Addr} {oc : Obj}
    {I : Addr} {b1 a1 a2 a3 a4 : Int} {G : Obj → List (Addr × Obj)}
    {dp un : Nat} {gd : Option (List Code)} {cn : Str} {cs : Scope} {a : Addr} {ccd : Value} {cl : List (Str × Addr)} {outer : List Env} {A₀ : Around} {base h₀ : Heap} {L : Addr} {m : Str → Option Value}
    {Q E : Value → Shared → Prop} {news : List (Addr × Obj)}
    (C : PuM prog w p loose mean mg mb dep f vs s.heap c oc (fun oc' tl v => Pen I b1 oc' ∧ tl = [] ∧ ∃ r t, v = .int r t ∧ (r = a1 ∨ r = a2 ∨ r = a3 ∨ r = a4))) (U : UpdF c oc news G)
    (B : Below A₀ base outer h₀) (F : Fr h₀ L s.heap m) (X : (hd.heap_39 w.params).In h₀) (N : News h₀ L s.heap news) (T : Top p loose mean mg mb h₀) (hk : cs.kind = .function)
    (hd : dp + dep < recursionLimit) (hu : un + 8 * dep < cLine)
    (h : ∀ r t h' tk' oc', Pen I b1 oc' → (r = a1 ∨ r = a2 ∨ r = a3 ∨ r = a4) → Fr h₀ L h' m → News h₀ L h' (G oc') → Q (.int r t) { s with heap := h', toks := tk' }) :
    wpAny (model prog w) (ktrTop dp un gd cn cs L a ccd cl outer) (call f vs) Q E s := usePuM C U B F X N T hk hd hu fun v h' tk' oc' tl o F9 N9 l9 => by
  refine and3 o ?_
  intro h1 e o2
  subst e
  refine ex2 o2 ?_
  intro r t o3
  refine and2 o3 ?_
  intro e2 h2
  subst e2
  exact h r t h' tk' oc' h1 h2 F9 N9
end


-- QzF24
local macro_rules | `(tactic| walk_at "QZ useN") => `(tactic| ((case q1 => k_asm); (case q2 => k_asm); (case q3 => k_asm); (case q5 => k_asm); (case q6 => first | exact rfl | assumption); (case q7 => first | exact room9 (by assumption) (by decide) | decide | ktr_room); (case q8 => first | exact units9 (by assumption) (by decide) | decide | ktr_units | ((try simp only [units_make, units_in1, units_deeper, Around.mark_units] at *); (try dsimp only [ktrTop] at *); omega)); k_whole))
local macro_rules | `(tactic| k_ne) => `(tactic| first | assumption | exact Ne.symm (by assumption) | exact Nat.ne_of_lt (by assumption) | exact Nat.ne_of_gt (by assumption) | exact Nat.ne_of_lt (And.right (by assumption)) | exact Nat.ne_of_gt (And.right (by assumption)) | exact Nat.ne_of_lt (And.left (by assumption)) | exact Nat.ne_of_gt (And.left (by assumption)))
local macro_rules | `(tactic| walk_at "call ref") => `(tactic| (k_here; (with_reducible show wpAny _ _ (call (Value.ref 490) _) _ _ _); refine stop9 ?_))
local macro_rules | `(tactic| walk_at "call ref") => `(tactic| (k_here; (with_reducible show wpAny _ _ (call (Value.ref 497) _) _ _ _); refine stop9 ?_))
local macro_rules | `(tactic| walk_at "call ref") => `(tactic| (k_here; (with_reducible show wpAny _ _ (call (Value.ref 251) _) _ _ _); refine stop9 ?_))
section
open PyProof.Rows.LCg PyProof.Rows.LCp

local macro_rules | `(tactic| walk_at "subscriptTail") => `(tactic| (k_here; (with_reducible show wpAny _ _ (subscriptTail _ _ (Value.ref _) (Value.int _ _)) _ _ _); k_dflt (refine' item4 ?k1 ?k2 ?k3 ?_; (case k1 => is_list); (case k2 => assumption); (case k3 => assumption)); intro r9 t9 hr9))
theorem News.one {h₀ h : Heap} {L a : Addr} {o : Obj} {news : List (Addr × Obj)} (N : News h₀ L h news) (hm : (a, o) ∈ news) : News h₀ L h [(a, o)] := fun p hp => by rw [List.mem_singleton.mp hp]; exact N _ hm

section
variable {prog : Program} {w : World} {p : Program} {loose : List Str} {mean : ExcName → Option Value} {mg mb : Str → Option Value} {g : Heap}

set_option maxHeartbeats 8000000 in
theorem c_pick {P I : Addr} {oc : Obj} {b : Int} (hI : Cells g I) (hp : Pen I b oc) (hb : b ≤ 90) (hPI : I ≠ P) {S : Addr} {a1 a2 a3 a4 : Int} {t1 t2 t3 t4 : Tok} (hS : g.IsList S #[.int a1 t1, .int a2 t2, .int a3 t3, .int a4 t4]) (hSP : S ≠ P) :
    PuM prog w p loose mean mg mb 40 (.ref 497) [.ref P, .ref S] g P oc (fun oc' tl v => Pen I (b + 1) oc' ∧ tl = [] ∧ ∃ r t, v = .int r t ∧ (r = a1 ∨ r = a2 ∨ r = a3 ∨ r = a4)) := by
  intro dp un gd cn cs a ccd cl outer A₀ base h₀ L m gens drawn toks os Q E B F N X T hk hd hu hret
  refine wpAny_call ?_
  k_dflt (refine' enterH (binds := [(Str.ofString "pen", .ref P), (Str.ofString "some", .ref S)]) ?k1 ?k2 ?k3 ?k4 ?k5 ?kA ?kF ?kK ?k6 ?k7 ?k8 ?k9 ?kB ?_ ?c2 ?c3 ?c4 ?c5)
  (case k4 => exact N)
  walk_at "QZ enter1"
  intro g' L' h' hg' F' N' B' X' T' l1
  have hI' : Cells g' I := Cells.off (by simpa using hg') hPI hI
  replace hS : g'.IsList S #[.int a1 t1, .int a2 t2, .int a3 t3, .int a4 t4] := by
    refine ex1 hS ?_
    try clear hS
    intro o zz9
    refine and2 zz9 ?_
    try clear zz9
    intro ho hr
    exact ⟨o, hg' _ _ (by simpa using hSP) ho, hr⟩
  (try dsimp only at F' B' X' T' N')
  clear B F X T N
  (try k_lt l1)
  show wpAny _ _ _ _ _ _
  k_fold
  k_steps
  refine .go ?_
  rename News _ _ _ _ => NN0
  have NN : News _ _ _ [(P, _)] := News.one (o := oc) NN0 (by k_mem)
  (refine' usePuW (c_drawP (Cells.base (by k_asm) hI') hp (by omega) (by decide) (by decide) hPI) (UpdF.head (by first | exact List.forall_mem_nil _ | assumption)) ?q1 ?q2 ?q3 NN ?q5 ?q6 ?q7 ?q8 ?_; walk_at "QZ useN")
  intro r1 t1 h9 tk9 oc1 hp1 hl1 hu1 F9 N9
  k_sweep
  k_steps
  exact hret _ _ _ _ [] (extX_of hg' (by k_asm)) (News.get (by k_asm) (by k_mem)) newIn_nil ⟨hp1, rfl, _, _, rfl, by assumption⟩

set_option maxHeartbeats 8000000 in
theorem c_straight {P I : Addr} {oc : Obj} {b : Int} (hI : Cells g I) (hp : Pen I b oc) (hb : b ≤ 60) (hPI : I ≠ P)  :
    PuM prog w p loose mean mg mb 80 (.ref 504) [.ref P] g P oc (fun oc' tl v => Pen I (b + 6) oc' ∧ ∃ na nb nc nd ne nf, MatG w.params (In tl) v na nb nc nd ne nf ∧ Straight na nb nc nd ∧ -4 ≤ na ∧ na ≤ 4 ∧ -4 ≤ nb ∧ nb ≤ 4 ∧ -4 ≤ nc ∧ nc ≤ 4 ∧ -4 ≤ nd ∧ nd ≤ 4 ∧ -4 ≤ ne ∧ ne ≤ 4 ∧ -4 ≤ nf ∧ nf ≤ 4) := by
  intro dp un gd cn cs a ccd cl outer A₀ base h₀ L m gens drawn toks os Q E B F N X T hk hd hu hret
  refine wpAny_call ?_
  k_dflt (refine' enterH (binds := [(Str.ofString "pen", .ref P)]) ?k1 ?k2 ?k3 ?k4 ?k5 ?kA ?kF ?kK ?k6 ?k7 ?k8 ?k9 ?kB ?_ ?c2 ?c3 ?c4 ?c5)
  (case k4 => exact N)
  walk_at "QZ enter1"
  intro g' L' h' hg' F' N' B' X' T' l1
  have hI' : Cells g' I := Cells.off (by simpa using hg') hPI hI
  (try dsimp only at F' B' X' T' N')
  clear B F X T N
  (try k_lt l1)
  show wpAny _ _ _ _ _ _
  k_fold
  k_steps
  refine .go ?_
  rename News _ _ _ _ => NN0
  have NN : News _ _ _ [(P, _)] := News.one (o := oc) NN0 (by k_mem)
  (refine' usePuK (c_pick (Cells.base (by k_asm) hI') hp (by omega) hPI (News.isList NN0 (by k_mem)) (by first | exact Nat.ne_of_gt (And.right (by assumption)) | exact Nat.ne_of_gt (by assumption))) (UpdF.head (List.forall_mem_nil _)) ?q1 ?q2 ?q3 NN ?q5 ?q6 ?q7 ?q8 ?_; walk_at "QZ useN")
  intro r1 t1 h9 tk9 oc1 hp1 hl1 F9 N9
  k_sweep
  k_steps
  refine .go ?_
  rename News _ _ _ _ => NN0
  have NN : News _ _ _ [(P, _)] := News.one (o := oc1) NN0 (by k_mem)
  (refine' usePuK (c_pick (Cells.base (by k_asm) hI') hp1 (by omega) hPI (News.isList NN0 (by k_mem)) (by first | exact Nat.ne_of_gt (And.right (by assumption)) | exact Nat.ne_of_gt (by assumption))) (UpdF.head (List.forall_mem_nil _)) ?q1 ?q2 ?q3 NN ?q5 ?q6 ?q7 ?q8 ?_; walk_at "QZ useN")
  intro r2 t2 h9 tk9 oc2 hp2 hl2 F9 N9
  k_sweep
  k_steps
  refine .go ?_
  rename News _ _ _ _ => NN0
  have NN : News _ _ _ [(P, _)] := News.one (o := oc2) NN0 (by k_mem)
  (refine' usePuW (c_drawP (Cells.base (by k_asm) hI') hp2 (by omega) (by decide) (by decide) hPI) (UpdF.head (by first | exact List.forall_mem_nil _ | assumption)) ?q1 ?q2 ?q3 NN ?q5 ?q6 ?q7 ?q8 ?_; walk_at "QZ useN")
  intro r3 t3 h9 tk9 oc3 hp3 hl3 hu3 F9 N9
  k_sweep
  k_steps
  refine .go ?_
  rename News _ _ _ _ => NN0
  have NN : News _ _ _ [(P, _)] := News.one (o := oc3) NN0 (by k_mem)
  (refine' usePuW (c_drawP (Cells.base (by k_asm) hI') hp3 (by omega) (by decide) (by decide) hPI) (UpdF.head (by first | exact List.forall_mem_nil _ | assumption)) ?q1 ?q2 ?q3 NN ?q5 ?q6 ?q7 ?q8 ?_; walk_at "QZ useN")
  intro r4 t4 h9 tk9 oc4 hp4 hl4 hu4 F9 N9
  k_sweep
  k_steps
  refine .go ?_
  rename News _ _ _ _ => NN0
  have NN : News _ _ _ [(P, _)] := News.one (o := oc4) NN0 (by k_mem)
  (refine' usePuW (c_drawP (Cells.base (by k_asm) hI') hp4 (by omega) (by decide) (by decide) hPI) (UpdF.head (by first | exact List.forall_mem_nil _ | assumption)) ?q1 ?q2 ?q3 NN ?q5 ?q6 ?q7 ?q8 ?_; walk_at "QZ useN")
  intro r5 t5 h9 tk9 oc5 hp5 hl5 hu5 F9 N9
  k_sweep
  k_steps
  
  · refine .go ?_
    (refine' usePu (c_MatrixI _ _ _ _ _ _ _ _ _ _ _ _) ?q1 ?q2 ?q3 ?q4 ?q5 ?q6 ?q7 ?q8 ?_; walk_at "QZ use")
    intro v9 h9 tk9 tl9 o9 F9 N9 l9
    exact hret _ _ _ _ tl9 (extX_of hg' (by k_asm)) (News.get (by k_asm) (List.mem_append.mpr (.inr (by k_mem)))) (newIn_of3 hg' N9 (fun q hq => List.mem_append.mpr (.inl hq)) (fun q hq => Ne.symm (l9 q hq (P, oc5) (by k_mem)))) ⟨hp5.le (by omega), _, _, _, _, _, _, o9, (.inl ⟨rfl, rfl⟩), by omega, by omega, by omega, by omega, by omega, by omega, by omega, by omega, by omega, by omega, by omega, by omega⟩
  · refine .go ?_
    (refine' usePu (c_MatrixI _ _ _ _ _ _ _ _ _ _ _ _) ?q1 ?q2 ?q3 ?q4 ?q5 ?q6 ?q7 ?q8 ?_; walk_at "QZ use")
    intro v9 h9 tk9 tl9 o9 F9 N9 l9
    exact hret _ _ _ _ tl9 (extX_of hg' (by k_asm)) (News.get (by k_asm) (List.mem_append.mpr (.inr (by k_mem)))) (newIn_of3 hg' N9 (fun q hq => List.mem_append.mpr (.inl hq)) (fun q hq => Ne.symm (l9 q hq (P, oc5) (by k_mem)))) ⟨hp5.le (by omega), _, _, _, _, _, _, o9, (.inr ⟨rfl, rfl⟩), by omega, by omega, by omega, by omega, by omega, by omega, by omega, by omega, by omega, by omega, by omega, by omega⟩
end
end


-- QzF25

section
open PyProof.Rows.LCg PyProof.Rows.LCp

theorem six {val : Nat → Value → Prop} {ys : List Value} (hl : ys.length = 6) (hv : ∀ i y, ys[i]? = some y → val i y) : ∃ y0 y1 y2 y3 y4 y5, ys = [y0, y1, y2, y3, y4, y5] ∧ val 0 y0 ∧ val 1 y1 ∧ val 2 y2 ∧ val 3 y3 ∧ val 4 y4 ∧ val 5 y5 := by
  refine uncons hl ?_
  intro y0 r0 e0 h0
  refine uncons h0 ?_
  intro y1 r1 e1 h1
  refine uncons h1 ?_
  intro y2 r2 e2 h2
  refine uncons h2 ?_
  intro y3 r3 e3 h3
  refine uncons h3 ?_
  intro y4 r4 e4 h4
  refine uncons h4 ?_
  intro y5 r5 e5 h5
  have e : ys = [y0, y1, y2, y3, y4, y5] := by rw [e0, e1, e2, e3, e4, e5, List.eq_nil_of_length_eq_zero h5]
  exact ⟨y0, y1, y2, y3, y4, y5, e, hv 0 _ (by rw [e]; rfl), hv 1 _ (by rw [e]; rfl), hv 2 _ (by rw [e]; rfl), hv 3 _ (by rw [e]; rfl), hv 4 _ (by rw [e]; rfl), hv 5 _ (by rw [e]; rfl)⟩

theorem News.one' {h₀ h : Heap} {L a : Addr} {o : Obj} {news : List (Addr × Obj)} (N : News h₀ L h news) (hm : (a, o) ∈ news) : News h₀ L h [(a, o)] := fun p hp => by rw [List.mem_singleton.mp hp]; exact N _ hm

section
variable {prog : Program} {w : World} {p : Program} {loose : List Str} {mean : ExcName → Option Value} {mg mb : Str → Option Value} {g : Heap}

set_option maxHeartbeats 8000000 in
theorem c_any {P I : Addr} {oc : Obj} {b : Int} (hI : Cells g I) (hp : Pen I b oc) (hb : b ≤ 60) (hPI : I ≠ P)  :
    PuM prog w p loose mean mg mb 80 (.ref 509) [.ref P] g P oc (fun oc' tl v => Pen I (b + 6) oc' ∧ ∃ na nb nc nd ne nf, MatG w.params (In tl) v na nb nc nd ne nf ∧ -4 ≤ na ∧ na ≤ 4 ∧ -4 ≤ nb ∧ nb ≤ 4 ∧ -4 ≤ nc ∧ nc ≤ 4 ∧ -4 ≤ nd ∧ nd ≤ 4 ∧ -4 ≤ ne ∧ ne ≤ 4 ∧ -4 ≤ nf ∧ nf ≤ 4) := by
  intro dp un gd cn cs a ccd cl outer A₀ base h₀ L m gens drawn toks os Q E B F N X T hk hd hu hret
  refine wpAny_call ?_
  k_dflt (refine' enterHC (binds := [(Str.ofString "pen", .ref P)]) ?k1 ?k2 ?k3 ?k4 ?k5 ?kA ?kF ?kK ?k6 ?k7 ?k8 ?k9 ?kB ?kD ?_ ?c2 ?c3 ?c4)
  (case k4 => exact N)
  walk_at "QZ enterC1"
  intro g' L' h' tk' cells' hg' F' N' Y' B' X' T' l1
  k_cells Y'
  have hI' : Cells g' I := Cells.off (by simpa using hg') hPI hI
  (try dsimp only at F' B' X' T' N')
  clear B F X T N
  (try k_lt l1)
  show wpAny _ _ _ _ _ _
  k_fold
  k_steps
  refine .go ?_
  refine Assign_ListComp_U (F₀ := by k_asm) (by rfl) (by with_unfolding_all rfl) (by with_unfolding_all rfl) (by decide) (by rfl) (by decide) (by rfl) (by rfl) (by rfl) ?_
  k_steps
  refine .go ?_
  have hc1 := Ne.symm (l1 _ (.head _) _ (.head _))
  dsimp only at hc1
  rename News _ _ _ _ => NN0
  have NN : News _ _ _ ((P, oc) :: [(L' + 1, _)]) := fun p hp => NN0 p (by simp only [List.mem_cons, List.not_mem_nil, or_false] at hp; rcases hp with rfl | rfl <;> k_mem)
  clear NN0 l1
  refine srcM (fun i oc => Pen I (b + i) oc) (fun _ y => ∃ r t, y = .int r t ∧ -2 ≤ r ∧ r ≤ 2) rfl (by k_asm) NN (by assumption) (by decide +kernel) (n := 6) rfl (Nat.le_of_ble_eq_true rfl) (List.forall_mem_singleton.mpr hc1) (by simpa using hp) ?el ?fin
  case el =>
    intro g1 i v oc0 hi hinv C oC m₂ h tk nw E' hC hx F' N' hne hCP
    simp only [List.cons_append, List.nil_append] at N' hne
    k_steps
    refine .go ?_
    (refine' usePuW (c_drawP (Cells.base (by k_asm) hI') hinv (by omega) (by decide) (by decide) hPI) (UpdF.tail hCP (UpdF.head hne)) ?q1 ?q2 ?q3 N' ?q5 ?q6 ?q7 ?q8 ?_; walk_at "QZ useN")
    intro r1 t1 h9 tk9 oc1 hp1 hl1 hu1 F9 N9
    k_sweep
    k_steps
    exact .intro F9 N9 ⟨hp1.le (by omega), r1 - 2, _, rfl, by omega, by omega⟩
  case fin =>
  intro g1 ys oc1 hl hv hi D h1 tk1 F1 N1 off
  refine ex6 (six hl hv) ?_
  intro y0 y1 y2 y3 y4 y5 zz9
  refine and7 zz9 ?_
  try clear zz9
  intro e9r95 n9r96 n9r97 n9r98 n9r99 n9r100 n9r101
  subst e9r95
  obtain ⟨r0, t0, rfl, b0, c0⟩ := n9r96
  obtain ⟨r1, t1, rfl, b1, c1⟩ := n9r97
  obtain ⟨r2, t2, rfl, b2, c2⟩ := n9r98
  obtain ⟨r3, t3, rfl, b3, c3⟩ := n9r99
  obtain ⟨r4, t4, rfl, b4, c4⟩ := n9r100
  obtain ⟨r5, t5, rfl, b5, c5⟩ := n9r101
  clear hv hl off NN
  k_steps
  refine .go ?_
  (refine' usePu (c_MatrixI _ _ _ _ _ _ _ _ _ _ _ _) ?q1 ?q2 ?q3 ?q4 ?q5 ?q6 ?q7 ?q8 ?_; walk_at "QZ use")
  intro v9 h9 tk9 tl9 o9 F9 N9 l9
  replace o9 : MatG w.params (In tl9) v9 r0 r1 r2 r3 r4 r5 := o9
  exact hret _ _ _ _ tl9 (extX_of hg' F9) (News.get N9 (List.mem_append.mpr (.inr (by k_mem)))) (newIn_of3 hg' N9 (fun q hq => List.mem_append.mpr (.inl hq)) (fun q hq => Ne.symm (l9 q hq (P, oc1) (by k_mem)))) ⟨hi.le (by omega), _, _, _, _, _, _, o9, by omega, by omega, by omega, by omega, by omega, by omega, by omega, by omega, by omega, by omega, by omega, by omega⟩

end
end


-- QzF26

section
open PyProof.Rows.LCg PyProof.Rows.LCp

theorem ints_ex : ∀ {ys : List Value}, (∀ (i : Nat) (y : Value), ys[i]? = some y → ∃ n t, y = Value.int n t) → ∃ ms, IntsAre ys ms ∧ ms.length = ys.length
  | [], _ => ⟨[], .nil, rfl⟩
  | y :: ys, h => by
    refine ex2 (h 0 y rfl) ?_
    intro n t e9r102
    subst e9r102
    refine ex1 (ints_ex (ys := ys) fun i z hz => h (i + 1) z hz) ?_
    intro ms zz9
    refine and2 zz9 ?_
    try clear zz9
    intro h1 h2
    exact ⟨n :: ms, .cons _ _ h1, by rw [List.length_cons, List.length_cons, h2]⟩
theorem ints_all {tl : List (Addr × Obj)} {ys : List Value} {n : Nat} (h : AllOut (fun _ _ y => ∃ n t, y = Value.int n t) n ys tl) : ∃ ms, IntsAre ys ms ∧ ms.length = n := by
  have e : ∀ (i : Nat) (y : Value), ys[i]? = some y → ∃ n t, y = Value.int n t := fun i y hy => by
    refine ex1 (h.2 i y hy) ?_
    intro t zz9
    refine and2 zz9 ?_
    try clear zz9
    intro _ q
    exact q
  refine ex1 (ints_ex e) ?_
  intro ms zz9
  refine and2 zz9 ?_
  try clear zz9
  intro h1 h2
  exact ⟨ms, h1, by rw [h2, h.1]⟩

section
variable {prog : Program} {w : World} {p : Program} {loose : List Str} {mean : ExcName → Option Value} {mg mb : Str → Option Value} {g : Heap}

set_option maxHeartbeats 8000000 in
theorem c_lawpen {S : Addr} {vs : List Value} {ns : List Int} (hS : g.IsList S vs.toArray) (hv : IntsAre vs ns) (hz : vs.toArray.size ≤ sizeLine) : Pu prog w p loose mean mg mb 20 (.ref 483) [.ref S] g (fun tl v => ∃ P I oc nI ws ms, v = .ref P ∧ tl = [(P, oc), (I, W.listOf (List.toArray ws) nI)] ∧ Pen I 0 oc ∧ IntsAre ws ms ∧ ms.length ≤ 40 ∧ I ≠ P) := by
  intro dp un gd cn cs a ccd cl outer A₀ base h₀ L m gens drawn toks os Q E B F X T hk hd hu hret
  refine wpAny_call ?_
  k_dflt (refine' enterP (binds := [(Str.ofString "script", .ref S)]) ?k1 ?k2 ?k3 ?k5 ?kA ?kF ?kK ?k6 ?k7 ?k8 ?k9 ?kB ?_ ?c2 ?c3 ?c4 ?c5)
  walk_at "QZ enter1"
  intro L' h' F' B' X' T'
  have N' := News.nil (h₀ := g) (h := h') (L := L')
  dsimp only at F' B' X' T'
  clear B F X T
  show wpAny _ _ _ _ _ _
  k_fold
  k_steps
  refine .go ?_
  refine ListComp_U (F₀ := by k_asm) (by with_unfolding_all rfl) (by decide) (by rfl) (by decide) (by rfl) ?_
  k_steps
  refine .go ?_
  rename News _ _ _ _ => NN
  rename IntsAre _ (List.take 40 ns) => hI4
  refine srcU (Out := fun _ _ y => ∃ n t, y = Value.int n t) rfl (by k_asm) NN (.inr ⟨_, .head _, rfl, _, rfl⟩) (by rw [List.size_toArray, hI4.length, sizeLine_eq, List.length_take]; omega) ?el ?fin
  case el =>
    intro g1 i v hi hv' C oC m₂ h tk nw E' hC hx F' N'
    refine ex2 (hI4.at i v (by simpa using hv')) ?_
    intro n t zz9
    refine and2 zz9 ?_
    try clear zz9
    intro e9r103 zz8
    subst e9r103
    clear zz8
    k_steps
    exact ElEnd.none ⟨_, _, rfl⟩ F' N' (fun p hp => .tail _ (List.mem_append.mpr (.inr hp)))
  case fin =>
  intro g1
  refine AfterE.fin ?_
  intro D1 h1 tk1 ys tl1 hA F' N' off
  refine ex1 (ints_all hA) ?_
  intro ms zz9
  refine and2 zz9 ?_
  try clear zz9
  intro hms hml
  rw [List.size_toArray, hI4.length, List.length_take] at hml
  replace N' := News.dropMid N'
  clear hA off
  k_steps
  rename _ ∧ _ => l2
  exact hret _ _ _ [(_, _), (_, _)] (by walk_at "QZ ext") (newIn_of (by k_asm) (List.forall_mem_cons.mpr ⟨.head _, List.forall_mem_singleton.mpr (.tail _ (.head _))⟩)) ⟨_, D1, _, _, ys, ms, rfl, rfl, ⟨0, 0, _, _, _, rfl, by omega, by omega⟩, hms, by omega, Nat.ne_of_lt l2.1⟩

end
end


-- QzArith

section
/-- opaque to omega -/
def Same5 (a b c d : Int) (f : Nat → Int) (t : Int × Int × Int × Int) (g : Nat → Int) : Prop := a = t.1 ∧ b = t.2.1 ∧ c = t.2.2.1 ∧ d = t.2.2.2 ∧ f = g
def Same6 (a b c d e f a' b' c' d' e' f' : Int) : Prop := a = a' ∧ b = b' ∧ c = c' ∧ d = d' ∧ e = e' ∧ f = f'
theorem mul_bd9 {a x : Int} (h1 : -9 ≤ a) (h2 : a ≤ 9) (h3 : 0 ≤ x) (h4 : x < 9) : -81 ≤ a * x ∧ a * x ≤ 81 := by
  have q1 := Int.mul_nonneg (show 0 ≤ 9 - a by omega) h3
  have q2 := Int.mul_nonneg (show 0 ≤ 9 + a by omega) h3
  rw [Int.sub_mul] at q1
  rw [Int.add_mul] at q2
  omega
abbrev Bnd9 (na nb nc nd ne nf : Int) : Prop := -9 ≤ na ∧ na ≤ 9 ∧ -9 ≤ nb ∧ nb ≤ 9 ∧ -9 ≤ nc ∧ nc ≤ 9 ∧ -9 ≤ nd ∧ nd ≤ 9 ∧ -9 ≤ ne ∧ ne ≤ 9 ∧ -9 ≤ nf ∧ nf ≤ 9
theorem bxl_mem (a b c d : Int) : bxl a b c d = a ∨ bxl a b c d = b ∨ bxl a b c d = c ∨ bxl a b c d = d := by
  simp only [bxl, Int.min_def]; repeat' split
  all_goals simp
theorem bxh_mem (a b c d : Int) : bxh a b c d = a ∨ bxh a b c d = b ∨ bxh a b c d = c ∨ bxh a b c d = d := by
  simp only [bxh, Int.max_def]; repeat' split
  all_goals simp
theorem bxl_le (a b c d : Int) : bxl a b c d ≤ a ∧ bxl a b c d ≤ b ∧ bxl a b c d ≤ c ∧ bxl a b c d ≤ d :=
  ⟨Int.le_trans (Int.min_le_left _ _) (Int.le_trans (Int.min_le_left _ _) (Int.min_le_left _ _)), Int.le_trans (Int.min_le_left _ _) (Int.le_trans (Int.min_le_left _ _) (Int.min_le_right _ _)), Int.le_trans (Int.min_le_left _ _) (Int.min_le_right _ _), Int.min_le_right _ _⟩
theorem le_bxh (a b c d : Int) : a ≤ bxh a b c d ∧ b ≤ bxh a b c d ∧ c ≤ bxh a b c d ∧ d ≤ bxh a b c d :=
  ⟨Int.le_trans (Int.le_trans (Int.le_max_left _ _) (Int.le_max_left _ _)) (Int.le_max_left _ _), Int.le_trans (Int.le_trans (Int.le_max_right _ _) (Int.le_max_left _ _)) (Int.le_max_left _ _), Int.le_trans (Int.le_max_right _ _) (Int.le_max_left _ _), Int.le_max_right _ _⟩
theorem of_mem4 {P : Int → Prop} {v a b c d : Int} (h : v = a ∨ v = b ∨ v = c ∨ v = d) (ha : P a) (hb : P b) (hc : P c) (hd : P d) : P v := by
  rcases h with h | h | h | h <;> rw [h] <;> assumption
theorem sm_lin {a c e : Int} (h1 : -81 ≤ a ∧ a ≤ 81) (h2 : -81 ≤ c ∧ c ≤ 81) (h3 : -9 ≤ e ∧ e ≤ 9) : Sm (a + c + e) := ⟨by omega, by omega⟩
theorem min9 {a b : Int} (h1 : 0 ≤ a ∧ a < 9) (h2 : 0 ≤ b ∧ b < 9) : 0 ≤ min a b ∧ min a b < 9 := by omega
theorem max9 {a b : Int} (h1 : 0 ≤ a ∧ a < 9) (h2 : 0 ≤ b ∧ b < 9) : 0 ≤ max a b ∧ max a b < 9 := by omega
/-- a moved annotation's numbers are small -/
theorem sm_moved {y1 y2 y3 y4 na nb nc nd ne nf a b c d : Int} {f ns : Nat → Int} (e : Same5 y1 y2 y3 y4 f (bxL na nc ne nb nd nf a b c d) (mvq na nb nc nd ne nf ns)) (hb : Bnd9 na nb nc nd ne nf)
    (h1 : 0 ≤ a ∧ a < 9) (h2 : 0 ≤ b ∧ b < 9) (h3 : 0 ≤ c ∧ c < 9) (h4 : 0 ≤ d ∧ d < 9) (hn : ∀ i, 0 ≤ ns i ∧ ns i < 9) : Sm y1 ∧ Sm y2 ∧ Sm y3 ∧ Sm y4 ∧ ∀ i, Sm (f i) := by
  refine and12 hb ?_
  try clear hb
  intro a1 a2 b1 b2 c1 c2 d1 d2 e1 e2 f1 f2
  have L : ∀ {u v w x y : Int}, -9 ≤ u → u ≤ 9 → -9 ≤ v → v ≤ 9 → -9 ≤ w → w ≤ 9 → (0 ≤ x ∧ x < 9) → (0 ≤ y ∧ y < 9) → Sm (u * x + v * y + w) := fun h1 h2 h3 h4 h5 h6 hx hy =>
    sm_lin (mul_bd9 h1 h2 hx.1 hx.2) (mul_bd9 h3 h4 hy.1 hy.2) ⟨h5, h6⟩
  refine and5 e ?_
  try clear e
  intro e9r104 e9r105 e9r106 e9r107 e9r108
  subst e9r104
  subst e9r105
  subst e9r106
  subst e9r107
  subst e9r108
  refine ⟨of_mem4 (bxl_mem _ _ _ _) ?_ ?_ ?_ ?_, of_mem4 (bxl_mem _ _ _ _) ?_ ?_ ?_ ?_, of_mem4 (bxh_mem _ _ _ _) ?_ ?_ ?_ ?_, of_mem4 (bxh_mem _ _ _ _) ?_ ?_ ?_ ?_, fun i => ?_⟩
  rotate_right
  · unfold mvq; split
    · exact L a1 a2 c1 c2 e1 e2 (hn _) (hn _)
    · exact L b1 b2 d1 d2 f1 f2 (hn _) (hn _)
  all_goals first | exact L a1 a2 c1 c2 e1 e2 (by assumption) (by assumption) | exact L b1 b2 d1 d2 f1 f2 (by assumption) (by assumption)
/-- the quadrilaterals moved twice -/
theorem mvq_mvq {m1 m2 m3 m4 m5 m6 u1 u2 u3 u4 u5 u6 p1 p2 p3 p4 p5 p6 : Int} {f g k : Nat → Int} {ns : Nat → Int}
    (hf : f = mvq m1 m2 m3 m4 m5 m6 ns) (hg : g = mvq u1 u2 u3 u4 u5 u6 f) (hk : k = mvq p1 p2 p3 p4 p5 p6 ns)
    (e : Same6 p1 p2 p3 p4 p5 p6 (m1 * u1 + m2 * u3) (m1 * u2 + m2 * u4) (m3 * u1 + m4 * u3) (m3 * u2 + m4 * u4) (u1 * m5 + u3 * m6 + u5) (u2 * m5 + u4 * m6 + u6)) : g = k := by
  refine and6 e ?_
  try clear e
  intro e9r109 e9r110 e9r111 e9r112 e9r113 e9r114
  subst e9r109
  subst e9r110
  subst e9r111
  subst e9r112
  subst e9r113
  subst e9r114
  subst hf hg hk
  funext j
  by_cases h : j % 2 = 0
  · have h1 : ¬ (j + 1) % 2 = 0 := by omega
    simp only [mvq, h, h1, if_true, if_false, Nat.add_sub_cancel]
    grind
  · have h1 : (j - 1) % 2 = 0 := by omega
    have h2 : j - 1 + 1 = j := by omega
    simp only [mvq, h, h1, h2, if_true, if_false]
    grind
theorem bx_in {k l e lo hi lo' hi' s t : Int} (h1 : lo ≤ s) (h2 : s ≤ hi) (h3 : lo' ≤ t) (h4 : t ≤ hi') :
    bxl (k * lo + l * lo' + e) (k * hi + l * lo' + e) (k * hi + l * hi' + e) (k * lo + l * hi' + e) ≤ k * s + l * t + e ∧ k * s + l * t + e ≤ bxh (k * lo + l * lo' + e) (k * hi + l * lo' + e) (k * hi + l * hi' + e) (k * lo + l * hi' + e) := by
  have L : ∀ {k lo s hi : Int}, lo ≤ s → s ≤ hi → (k * lo ≤ k * s ∧ k * s ≤ k * hi) ∨ (k * hi ≤ k * s ∧ k * s ≤ k * lo) := by
    intro k lo s hi h1 h2
    rcases Int.le_total 0 k with h | h
    · exact .inl ⟨Int.mul_le_mul_of_nonneg_left h1 h, Int.mul_le_mul_of_nonneg_left h2 h⟩
    · exact .inr ⟨Int.mul_le_mul_of_nonpos_left h h2, Int.mul_le_mul_of_nonpos_left h h1⟩
  refine and4 (bxl_le (k * lo + l * lo' + e) (k * hi + l * lo' + e) (k * hi + l * hi' + e) (k * lo + l * hi' + e)) ?_
  intro a1 a2 a3 a4
  refine and4 (le_bxh (k * lo + l * lo' + e) (k * hi + l * lo' + e) (k * hi + l * hi' + e) (k * lo + l * hi' + e)) ?_
  intro b1 b2 b3 b4
  rcases L (k := k) h1 h2 with ⟨p, q⟩ | ⟨p, q⟩ <;> rcases L (k := l) h3 h4 with ⟨r, s⟩ | ⟨r, s⟩ <;> exact ⟨by omega, by omega⟩
theorem bx_le (a b c d : Int) : bxl a b c d ≤ bxh a b c d := Int.le_trans (bxl_le a b c d).1 (le_bxh a b c d).1
/-- the Rect moved at once lies within the Rect moved twice -/
theorem within_moved {m1 m2 m3 m4 m5 m6 u1 u2 u3 u4 u5 u6 p1 p2 p3 p4 p5 p6 a b c d A1 A2 A3 A4 B1 B2 B3 B4 C1 C2 C3 C4 : Int} {f g k f' g' k' : Nat → Int}
    (eA : Same5 A1 A2 A3 A4 f (bxL m1 m3 m5 m2 m4 m6 a b c d) f') (eB : Same5 B1 B2 B3 B4 g (bxL u1 u3 u5 u2 u4 u6 (min A1 A3) (min A2 A4) (max A1 A3) (max A2 A4)) g') (eC : Same5 C1 C2 C3 C4 k (bxL p1 p3 p5 p2 p4 p6 a b c d) k')
    (e : Same6 p1 p2 p3 p4 p5 p6 (m1 * u1 + m2 * u3) (m1 * u2 + m2 * u4) (m3 * u1 + m4 * u3) (m3 * u2 + m4 * u4) (u1 * m5 + u3 * m6 + u5) (u2 * m5 + u4 * m6 + u6)) :
    min B1 B3 ≤ min C1 C3 ∧ min B2 B4 ≤ min C2 C4 ∧ max C1 C3 ≤ max B1 B3 ∧ max C2 C4 ≤ max B2 B4 := by
  refine and6 e ?_
  try clear e
  intro e9r115 e9r116 e9r117 e9r118 e9r119 e9r120
  subst e9r115
  subst e9r116
  subst e9r117
  subst e9r118
  subst e9r119
  subst e9r120
  refine and5 eA ?_
  try clear eA
  intro hA1 hA2 hA3 hA4 zz8
  clear zz8
  refine and5 eB ?_
  try clear eB
  intro hB1 hB2 hB3 hB4 zz8
  clear zz8
  refine and5 eC ?_
  try clear eC
  intro e9r121 e9r122 e9r123 e9r124 zz8
  subst e9r121
  subst e9r122
  subst e9r123
  subst e9r124
  clear zz8
  have K : ∀ {X Y : Int}, A1 ≤ m1 * X + m3 * Y + m5 → m1 * X + m3 * Y + m5 ≤ A3 → A2 ≤ m2 * X + m4 * Y + m6 → m2 * X + m4 * Y + m6 ≤ A4 →
      (B1 ≤ (m1 * u1 + m2 * u3) * X + (m3 * u1 + m4 * u3) * Y + (u1 * m5 + u3 * m6 + u5) ∧ (m1 * u1 + m2 * u3) * X + (m3 * u1 + m4 * u3) * Y + (u1 * m5 + u3 * m6 + u5) ≤ B3) ∧
      (B2 ≤ (m1 * u2 + m2 * u4) * X + (m3 * u2 + m4 * u4) * Y + (u2 * m5 + u4 * m6 + u6) ∧ (m1 * u2 + m2 * u4) * X + (m3 * u2 + m4 * u4) * Y + (u2 * m5 + u4 * m6 + u6) ≤ B4) := by
    intro X Y h1 h2 h3 h4
    have e1 : (m1 * u1 + m2 * u3) * X + (m3 * u1 + m4 * u3) * Y + (u1 * m5 + u3 * m6 + u5) = u1 * (m1 * X + m3 * Y + m5) + u3 * (m2 * X + m4 * Y + m6) + u5 := by grind
    have e2 : (m1 * u2 + m2 * u4) * X + (m3 * u2 + m4 * u4) * Y + (u2 * m5 + u4 * m6 + u6) = u2 * (m1 * X + m3 * Y + m5) + u4 * (m2 * X + m4 * Y + m6) + u6 := by grind
    rw [e1, e2]
    have g1 : min A1 A3 ≤ m1 * X + m3 * Y + m5 := Int.le_trans (Int.min_le_left _ _) h1
    have g2 : m1 * X + m3 * Y + m5 ≤ max A1 A3 := Int.le_trans h2 (Int.le_max_right _ _)
    have g3 : min A2 A4 ≤ m2 * X + m4 * Y + m6 := Int.le_trans (Int.min_le_left _ _) h3
    have g4 : m2 * X + m4 * Y + m6 ≤ max A2 A4 := Int.le_trans h4 (Int.le_max_right _ _)
    have b1 := bx_in (k := u1) (l := u3) (e := u5) g1 g2 g3 g4
    have b2 := bx_in (k := u2) (l := u4) (e := u6) g1 g2 g3 g4
    refine ⟨⟨?_, ?_⟩, ?_, ?_⟩
    · rw [hB1]; exact b1.1
    · rw [hB3]; exact b1.2
    · rw [hB2]; exact b2.1
    · rw [hB4]; exact b2.2
  refine and4 (bxl_le (m1 * a + m3 * b + m5) (m1 * c + m3 * b + m5) (m1 * c + m3 * d + m5) (m1 * a + m3 * d + m5)) ?_
  intro l1 l2 l3 l4
  refine and4 (bxl_le (m2 * a + m4 * b + m6) (m2 * c + m4 * b + m6) (m2 * c + m4 * d + m6) (m2 * a + m4 * d + m6)) ?_
  intro l5 l6 l7 l8
  refine and4 (le_bxh (m1 * a + m3 * b + m5) (m1 * c + m3 * b + m5) (m1 * c + m3 * d + m5) (m1 * a + m3 * d + m5)) ?_
  intro r1 r2 r3 r4
  refine and4 (le_bxh (m2 * a + m4 * b + m6) (m2 * c + m4 * b + m6) (m2 * c + m4 * d + m6) (m2 * a + m4 * d + m6)) ?_
  intro r5 r6 r7 r8
  simp only [bxL] at hA1 hA2 hA3 hA4
  rw [← hA1] at l1 l2 l3 l4
  rw [← hA3] at r1 r2 r3 r4
  rw [← hA2] at l5 l6 l7 l8
  rw [← hA4] at r5 r6 r7 r8
  have c1 := K l1 r1 l5 r5
  have c2 := K l2 r2 l6 r6
  have c3 := K l3 r3 l7 r7
  have c4 := K l4 r4 l8 r8
  clear hA1 hA2 hA3 hA4 hB1 hB2 hB3 hB4 l1 l2 l3 l4 l5 l6 l7 l8 r1 r2 r3 r4 r5 r6 r7 r8
  have F : ∀ {B B' L H : Int}, B ≤ L → L ≤ H → H ≤ B' → min B B' ≤ min L H ∧ max L H ≤ max B B' := fun h1 h2 h3 => by omega
  have x := F (of_mem4 (P := fun v => B1 ≤ v) (bxl_mem _ _ _ _) c1.1.1 c2.1.1 c3.1.1 c4.1.1) (bx_le _ _ _ _) (of_mem4 (P := fun v => v ≤ B3) (bxh_mem _ _ _ _) c1.1.2 c2.1.2 c3.1.2 c4.1.2)
  have y := F (of_mem4 (P := fun v => B2 ≤ v) (bxl_mem _ _ _ _) c1.2.1 c2.2.1 c3.2.1 c4.2.1) (bx_le _ _ _ _) (of_mem4 (P := fun v => v ≤ B4) (bxh_mem _ _ _ _) c1.2.2 c2.2.2 c3.2.2 c4.2.2)
  exact ⟨x.1, y.1, x.2, y.2⟩
theorem bx_pair (x y : Int) : bxl x y y x = min x y ∧ bxh x y y x = max x y ∧ bxl x x y y = min x y ∧ bxh x x y y = max x y := by
  rcases Int.le_total x y with h | h
  · simp only [bxl, bxh, Int.min_eq_left h, Int.min_eq_right h, Int.max_eq_left h, Int.max_eq_right h, Int.min_self, Int.max_self, and_self]
  · simp only [bxl, bxh, Int.min_eq_left h, Int.min_eq_right h, Int.max_eq_left h, Int.max_eq_right h, Int.min_self, Int.max_self, and_self]
/-- a map of the line takes the ends of a stretch to the ends of a stretch -/
theorem ends {k e X Y : Int} : min (k * min X Y + e) (k * max X Y + e) = min (k * X + e) (k * Y + e) ∧ max (k * min X Y + e) (k * max X Y + e) = max (k * X + e) (k * Y + e) := by
  rcases Int.le_total X Y with h | h
  · rw [Int.min_eq_left h, Int.max_eq_right h]; exact ⟨rfl, rfl⟩
  · rw [Int.min_eq_right h, Int.max_eq_left h]; exact ⟨Int.min_comm _ _, Int.max_comm _ _⟩
theorem mm (x y : Int) : min (min x y) (max x y) = min x y ∧ max (min x y) (max x y) = max x y :=
  have h : min x y ≤ max x y := Int.le_trans (Int.min_le_left _ _) (Int.le_max_left _ _)
  ⟨Int.min_eq_left h, Int.max_eq_right h⟩
/-- the corners' images -/
theorem corner {m1 m2 m3 m4 m5 m6 k l e X Y : Int} : (m1 * k + m2 * l) * X + (m3 * k + m4 * l) * Y + (k * m5 + l * m6 + e) = k * (m1 * X + m3 * Y + m5) + l * (m2 * X + m4 * Y + m6) + e := by grind
/-- of a box with its corners at p, p', q, q': moved straight, it has the corners moved -/
theorem box4 {k l e p p' q q' : Int} (h : l = 0 ∨ k = 0) :
    bxl (k * min p p' + l * min q q' + e) (k * max p p' + l * min q q' + e) (k * max p p' + l * max q q' + e) (k * min p p' + l * max q q' + e) = bxl (k * p + l * q + e) (k * p' + l * q + e) (k * p' + l * q' + e) (k * p + l * q' + e) ∧
    bxh (k * min p p' + l * min q q' + e) (k * max p p' + l * min q q' + e) (k * max p p' + l * max q q' + e) (k * min p p' + l * max q q' + e) = bxh (k * p + l * q + e) (k * p' + l * q + e) (k * p' + l * q' + e) (k * p + l * q' + e) := by
  rcases h with rfl | rfl
  · simp only [Int.zero_mul, Int.add_zero, (bx_pair _ _).1, (bx_pair _ _).2.1, ends, and_self]
  · simp only [Int.zero_mul, Int.zero_add, (bx_pair _ _).2.2.1, (bx_pair _ _).2.2.2, ends, and_self]
theorem bx_turn (a b c d : Int) : bxl a b c d = bxl a d c b ∧ bxh a b c d = bxh a d c b :=
  have l := bxl_le a b c d
  have l' := bxl_le a d c b
  have r := le_bxh a b c d
  have r' := le_bxh a d c b
  ⟨Int.le_antisymm (of_mem4 (P := fun v => bxl a b c d ≤ v) (bxl_mem a d c b) l.1 l.2.2.2 l.2.2.1 l.2.1) (of_mem4 (P := fun v => bxl a d c b ≤ v) (bxl_mem a b c d) l'.1 l'.2.2.2 l'.2.2.1 l'.2.1),
    Int.le_antisymm (of_mem4 (P := fun v => v ≤ bxh a d c b) (bxh_mem a b c d) r'.1 r'.2.2.2 r'.2.2.1 r'.2.1) (of_mem4 (P := fun v => v ≤ bxh a b c d) (bxh_mem a d c b) r.1 r.2.2.2 r.2.2.1 r.2.1)⟩
/-- a straight matrix: its corners -/
theorem corners4 {m1 m2 m3 m4 m5 m6 a b c d A1 A2 A3 A4 : Int} {f f' : Nat → Int} (sm : Straight m1 m2 m3 m4) (eA : Same5 A1 A2 A3 A4 f (bxL m1 m3 m5 m2 m4 m6 a b c d) f') :
    ∃ p p' q q', A1 = min p p' ∧ A3 = max p p' ∧ A2 = min q q' ∧ A4 = max q q' ∧ ((m1 * a + m3 * b + m5 = p ∧ m2 * a + m4 * b + m6 = q ∧ m1 * c + m3 * b + m5 = p' ∧ m2 * c + m4 * b + m6 = q ∧ m1 * c + m3 * d + m5 = p' ∧ m2 * c + m4 * d + m6 = q' ∧ m1 * a + m3 * d + m5 = p ∧ m2 * a + m4 * d + m6 = q') ∨
      (m1 * a + m3 * b + m5 = p ∧ m2 * a + m4 * b + m6 = q ∧ m1 * c + m3 * b + m5 = p ∧ m2 * c + m4 * b + m6 = q' ∧ m1 * c + m3 * d + m5 = p' ∧ m2 * c + m4 * d + m6 = q' ∧ m1 * a + m3 * d + m5 = p' ∧ m2 * a + m4 * d + m6 = q)) := by
  refine and5 eA ?_
  try clear eA
  intro h1 h2 h3 h4 zz8
  clear zz8
  rcases sm with ⟨rfl, rfl⟩ | ⟨rfl, rfl⟩
  · simp only [bxL, Int.zero_mul, Int.add_zero, Int.zero_add, (bx_pair _ _).1, (bx_pair _ _).2.1, (bx_pair _ _).2.2.1, (bx_pair _ _).2.2.2] at h1 h2 h3 h4 ⊢
    exact ⟨_, _, _, _, h1, h3, h2, h4, .inl ⟨rfl, rfl, rfl, rfl, rfl, rfl, rfl, rfl⟩⟩
  · simp only [bxL, Int.zero_mul, Int.add_zero, Int.zero_add, (bx_pair _ _).1, (bx_pair _ _).2.1, (bx_pair _ _).2.2.1, (bx_pair _ _).2.2.2] at h1 h2 h3 h4 ⊢
    exact ⟨_, _, _, _, h1, h3, h2, h4, .inr ⟨rfl, rfl, rfl, rfl, rfl, rfl, rfl, rfl⟩⟩
/-- straight ones: the Rect moved twice is the Rect moved at once -/
theorem same_box {m1 m2 m3 m4 m5 m6 u1 u2 u3 u4 u5 u6 p1 p2 p3 p4 p5 p6 a b c d A1 A2 A3 A4 B1 B2 B3 B4 C1 C2 C3 C4 : Int} {f g k f' g' k' : Nat → Int}
    (eA : Same5 A1 A2 A3 A4 f (bxL m1 m3 m5 m2 m4 m6 a b c d) f') (eB : Same5 B1 B2 B3 B4 g (bxL u1 u3 u5 u2 u4 u6 (min A1 A3) (min A2 A4) (max A1 A3) (max A2 A4)) g') (eC : Same5 C1 C2 C3 C4 k (bxL p1 p3 p5 p2 p4 p6 a b c d) k')
    (e : Same6 p1 p2 p3 p4 p5 p6 (m1 * u1 + m2 * u3) (m1 * u2 + m2 * u4) (m3 * u1 + m4 * u3) (m3 * u2 + m4 * u4) (u1 * m5 + u3 * m6 + u5) (u2 * m5 + u4 * m6 + u6))
    (sm : Straight m1 m2 m3 m4) (su : Straight u1 u2 u3 u4) : B1 = C1 ∧ B2 = C2 ∧ B3 = C3 ∧ B4 = C4 := by
  refine and6 e ?_
  try clear e
  intro e9r125 e9r126 e9r127 e9r128 e9r129 e9r130
  subst e9r125
  subst e9r126
  subst e9r127
  subst e9r128
  subst e9r129
  subst e9r130
  have s1 : u3 = 0 ∨ u1 = 0 := su.elim (fun h => .inl h.2) fun h => .inr h.1
  have s2 : u4 = 0 ∨ u2 = 0 := su.elim (fun h => .inr h.1) fun h => .inl h.2
  refine ex4 (corners4 sm eA) ?_
  intro p p' q q' zz9
  refine and5 zz9 ?_
  try clear zz9
  intro e9r131 e9r132 e9r133 e9r134 hc
  subst e9r131
  subst e9r132
  subst e9r133
  subst e9r134
  refine and5 eB ?_
  try clear eB
  intro e9r135 e9r136 e9r137 e9r138 zz8
  subst e9r135
  subst e9r136
  subst e9r137
  subst e9r138
  clear zz8
  refine and5 eC ?_
  try clear eC
  intro e9r139 e9r140 e9r141 e9r142 zz8
  subst e9r139
  subst e9r140
  subst e9r141
  subst e9r142
  clear zz8
  simp only [bxL, corner, mm]
  rcases hc with ⟨h1, h2, h3, h4, h5, h6, h7, h8⟩ | ⟨h1, h2, h3, h4, h5, h6, h7, h8⟩
  · rw [h1, h2, h3, h4, h5, h6, h7, h8]
    exact ⟨(box4 s1).1, (box4 s2).1, (box4 s1).2, (box4 s2).2⟩
  · rw [h1, h2, h3, h4, h5, h6, h7, h8]
    exact ⟨(box4 s1).1.trans (bx_turn _ _ _ _).1, (box4 s2).1.trans (bx_turn _ _ _ _).1, (box4 s1).2.trans (bx_turn _ _ _ _).2, (box4 s2).2.trans (bx_turn _ _ _ _).2⟩
/-- the unmoved -/
theorem moved_one {x1 x2 x3 x4 B1 B2 B3 B4 : Int} {f ns : Nat → Int} (e : Same5 B1 B2 B3 B4 f (bxL 1 0 0 0 1 0 (min x1 x3) (min x2 x4) (max x1 x3) (max x2 x4)) (mvq 1 0 0 1 0 0 ns)) :
    min B1 B3 = min x1 x3 ∧ min B2 B4 = min x2 x4 ∧ max B1 B3 = max x1 x3 ∧ max B2 B4 = max x2 x4 ∧ f = ns := by
  refine and5 e ?_
  try clear e
  intro e9r143 e9r144 e9r145 e9r146 e9r147
  subst e9r143
  subst e9r144
  subst e9r145
  subst e9r146
  subst e9r147
  refine ⟨?_, ?_, ?_, ?_, funext fun j => ?_⟩
  · simp only [bxL, Int.zero_mul, Int.one_mul, Int.add_zero, Int.zero_add, (bx_pair _ _).1, (bx_pair _ _).2.1, mm]
  · simp only [bxL, Int.zero_mul, Int.one_mul, Int.add_zero, Int.zero_add, (bx_pair _ _).2.2.1, (bx_pair _ _).2.2.2, mm]
  · simp only [bxL, Int.zero_mul, Int.one_mul, Int.add_zero, Int.zero_add, (bx_pair _ _).1, (bx_pair _ _).2.1, mm]
  · simp only [bxL, Int.zero_mul, Int.one_mul, Int.add_zero, Int.zero_add, (bx_pair _ _).2.2.1, (bx_pair _ _).2.2.2, mm]
  · unfold mvq; split <;> simp
/-- moved and moved back -/
theorem moved_back {m1 m2 m3 m4 m5 m6 u1 u2 u3 u4 u5 u6 x1 x2 x3 x4 A1 A2 A3 A4 B1 B2 B3 B4 : Int} {f g ns : Nat → Int}
    (eA : Same5 A1 A2 A3 A4 f (bxL m1 m3 m5 m2 m4 m6 (min x1 x3) (min x2 x4) (max x1 x3) (max x2 x4)) (mvq m1 m2 m3 m4 m5 m6 ns)) (eB : Same5 B1 B2 B3 B4 g (bxL u1 u3 u5 u2 u4 u6 (min A1 A3) (min A2 A4) (max A1 A3) (max A2 A4)) (mvq u1 u2 u3 u4 u5 u6 f))
    (e : Same6 1 0 0 1 0 0 (m1 * u1 + m2 * u3) (m1 * u2 + m2 * u4) (m3 * u1 + m4 * u3) (m3 * u2 + m4 * u4) (u1 * m5 + u3 * m6 + u5) (u2 * m5 + u4 * m6 + u6))
    (sm : Straight m1 m2 m3 m4) (su : Straight u1 u2 u3 u4) : min B1 B3 = min x1 x3 ∧ min B2 B4 = min x2 x4 ∧ max B1 B3 = max x1 x3 ∧ max B2 B4 = max x2 x4 ∧ g = ns := by
  have eC : Same5 _ _ _ _ _ (bxL 1 0 0 0 1 0 (min x1 x3) (min x2 x4) (max x1 x3) (max x2 x4)) (mvq 1 0 0 1 0 0 ns) := ⟨rfl, rfl, rfl, rfl, rfl⟩
  refine and4 (same_box eA eB eC e sm su) ?_
  intro e9r148 e9r149 e9r150 e9r151
  subst e9r148
  subst e9r149
  subst e9r150
  subst e9r151
  have h := moved_one eC
  exact ⟨h.1, h.2.1, h.2.2.1, h.2.2.2.1, (mvq_mvq eA.2.2.2.2 eB.2.2.2.2 eC.2.2.2.2 e).trans h.2.2.2.2⟩
def qco (n : Int) : Int := if n.fmod 4 = 0 then 1 else if n.fmod 4 = 2 then -1 else 0
def qsi (n : Int) : Int := if n.fmod 4 = 1 then 1 else if n.fmod 4 = 3 then -1 else 0
theorem turn_ok {r : Int} (h1 : 0 ≤ r) (h2 : r < 4) : Same6 1 0 0 1 0 0 (qco r * qco (4 - r) + qsi r * -(qsi (4 - r))) (qco r * qsi (4 - r) + qsi r * qco (4 - r)) (-(qsi r) * qco (4 - r) + qco r * -(qsi (4 - r))) (-(qsi r) * qsi (4 - r) + qco r * qco (4 - r)) (qco (4 - r) * 0 + -(qsi (4 - r)) * 0 + 0) (qsi (4 - r) * 0 + qco (4 - r) * 0 + 0) := by
  have h : r = 0 ∨ r = 1 ∨ r = 2 ∨ r = 3 := by omega
  rcases h with rfl | rfl | rfl | rfl <;> exact ⟨by decide, by decide, by decide, by decide, by decide, by decide⟩
theorem turn_straight (n : Int) : Straight (qco n) (qsi n) (-(qsi n)) (qco n) := by
  unfold Straight qco qsi; repeat' split
  all_goals first | omega
theorem turn_bnd (n : Int) : Bnd9 (qco n) (qsi n) (-(qsi n)) (qco n) 0 0 := by
  unfold Bnd9 qco qsi; repeat' split
  all_goals decide
theorem shift_ok (x y : Int) : Same6 1 0 0 1 0 0 (1 * 1 + 0 * 0) (1 * 0 + 0 * 1) (0 * 1 + 1 * 0) (0 * 0 + 1 * 1) (1 * x + 0 * y + (0 - x)) (0 * x + 1 * y + (0 - y)) := ⟨by decide, by decide, by decide, by decide, by omega, by omega⟩
theorem shift_straight : Straight 1 0 0 1 := .inl ⟨rfl, rfl⟩
theorem shift_bnd {x y : Int} (h1 : 0 ≤ x ∧ x < 9) (h2 : 0 ≤ y ∧ y < 9) : Bnd9 1 0 0 1 x y := by unfold Bnd9; omega
end


-- QzLaw

section
theorem ne3 {P : Addr} {a b c : Addr × Obj} (h1 : a.1 ≠ P) (h2 : b.1 ≠ P) (h3 : c.1 ≠ P) : ∀ p ∈ [a, b, c], p.1 ≠ P := fun p hp => by
  simp only [List.mem_cons, List.not_mem_nil, or_false] at hp
  rcases hp with rfl | rfl | rfl <;> assumption
theorem News.get_ {h₀ h : Heap} {L : Addr} {news : List (Addr × Obj)} (N : News h₀ L h news) {p : Addr × Obj} (hp : p ∈ news) : h.get? p.1 = some p.2 ∧ p.1 ≠ L ∧ h₀.get? p.1 = none := N p hp

theorem ne5 {P : Addr} {a b c d e : Addr × Obj} (h1 : a.1 ≠ P) (h2 : b.1 ≠ P) (h3 : c.1 ≠ P) (h4 : d.1 ≠ P) (h5 : e.1 ≠ P) : ∀ p ∈ [a, b, c, d, e], p.1 ≠ P := fun p hp => by
  simp only [List.mem_cons, List.not_mem_nil, or_false] at hp
  rcases hp with rfl | rfl | rfl | rfl | rfl <;> assumption

theorem pick3 {h₀ h : Heap} {L : Addr} {a b c : Addr × Obj} {r : List (Addr × Obj)} (N : News h₀ L h (a :: b :: c :: r)) : News h₀ L h (c :: a :: b :: r) := fun p hp => N p (by
  simp only [List.mem_cons] at hp ⊢
  rcases hp with h | h | h | h <;> simp [h])
theorem Cells.news {h₀ h : Heap} {L a : Addr} {news : List (Addr × Obj)} {ws : List Value} {ms : List Int} {n : Nat} (N : News h₀ L h news) (hm : (a, W.listOf ws.toArray n) ∈ news) (hw : IntsAre ws ms) (hl : ms.length ≤ 40) : Cells h a := ⟨ws, ms, News.isList N hm, hw, hl⟩
/-- the head is made -/
def JoinH (prog : Program) (w : World) (g : Heap) (L : Addr) (m : Str → Option Value) (s : Shared) (P I cell : Addr) (lI oC : Obj) (dH : Addr) (x1 x2 x3 x4 : Int) (k : Nat) (s' : Shared) : Prop :=
  ∃ h' tk' oc' nw ns lc t7, s' = { s with heap := h', toks := tk' } ∧ Fr g L h' m ∧ News g L h' ((P, oc') :: (I, lI) :: (cell, oC) :: nw) ∧ Pen I 21 oc' ∧ HeadAt prog w (In nw) (.ref dH) lc k x1 x2 x3 x4 ns ∧ (∀ i, 0 ≤ ns i ∧ ns i < 9) ∧ (lc, W.listOf #[.int 7 t7] 0) ∈ nw ∧ ∀ p ∈ nw, p.1 ≠ P
theorem cutH {prog : Program} {w : World} {A : Around} {E : Value → Shared → Prop} {Q : Flow → Shared → Prop} {s : Shared} {t : Sem Flow} {g : Heap} {L : Addr} {m : Str → Option Value} {P I cell : Addr} {lI oC : Obj} {dH : Addr} {x1 x2 x3 x4 : Int} {k : Nat} (_F : Fr g L s.heap m)
    (hif : wpAny (model prog w) A t (fun fl s' => fl = .next ∧ JoinH prog w g L m s P I cell lI oC dH x1 x2 x3 x4 k s') E s)
    (hrest : ∀ h' tk' oc' nw ns lc t7, Fr g L h' m → News g L h' ((P, oc') :: (I, lI) :: (cell, oC) :: nw) → Pen I 21 oc' → HeadAt prog w (In nw) (.ref dH) lc k x1 x2 x3 x4 ns → (∀ i, 0 ≤ ns i ∧ ns i < 9) → (lc, W.listOf #[.int 7 t7] 0) ∈ nw → (∀ p ∈ nw, p.1 ≠ P) → Q .next { s with heap := h', toks := tk' }) :
    wpAny (model prog w) A t Q E s := wpAny_mono hif (fun fl s' z => and2 z fun e z => ex7 z fun h' tk' oc' nw ns lc t7 z => and8 z fun e' h1 h2 h3 h4 h5 h6 h7 => by subst e; subst e'; exact hrest h' tk' oc' nw ns lc t7 h1 h2 h3 h4 h5 h6 h7) fun _ _ e => e
theorem JoinH.zero {prog : Program} {w : World} {g h' : Heap} {L : Addr} {m : Str → Option Value} {s : Shared} {P I cell lc D dH : Addr} {lI oC oH oc' : Obj} {x1 x2 x3 x4 : Int} {t1 t2 t3 t4 t7 tF : Tok} {e tk' : Nat} (F : Fr g L h' m)
    (N : News g L h' [(P, oc'), (lc, W.listOf #[.int 7 t7] 0), (D, W.listOf #[.int x1 t1, .int x2 t2, .int x3 t3, .int x4 t4] e), (I, lI), (cell, oC), (dH, oH)]) (hp : Pen I 21 oc') (hd : oH.IsDictOf (strKind prog w) (hd3 D tF lc)) (lo : (dH == sysModules) = false)
    (n1 : lc ≠ P) (n2 : D ≠ P) (n3 : dH ≠ P) : JoinH prog w g L m s P I cell lI oC dH x1 x2 x3 x4 0 { s with heap := h', toks := tk' } := by
  refine ⟨h', tk', oc', [(lc, W.listOf #[.int 7 t7] 0), (D, W.listOf #[.int x1 t1, .int x2 t2, .int x3 t3, .int x4 t4] e), (dH, oH)], fun _ => 0, lc, t7, rfl, F, fun p hp => N p ?_, hp,
    ⟨dH, oH, D, tF, e, _, _, _, _, rfl, .tail _ (.tail _ (.head _)), lo, .tail _ (.head _), .inl ⟨_, rfl⟩, .inl ⟨_, rfl⟩, .inl ⟨_, rfl⟩, .inl ⟨_, rfl⟩, .inl ⟨rfl, hd⟩⟩, fun i => ⟨Int.le_refl 0, (by decide : (0 : Int) < 9)⟩, .head _, ne3 n1 n2 n3⟩
  simp only [List.mem_cons, List.not_mem_nil, or_false] at hp ⊢
  rcases hp with h | h | h | h | h | h <;> simp [h]
theorem JoinH.quads {prog : Program} {w : World} {g h' : Heap} {L : Addr} {m : Str → Option Value} {s : Shared} {P I cell lc D D2 dH : Addr} {lI oC oH oc' : Obj} {x1 x2 x3 x4 : Int} {t1 t2 t3 t4 t7 tF : Tok} {e e2 tk' k : Nat} {ys : List Value} {ns : Nat → Int} (F : Fr g L h' m)
    (N : News g L h' [(D2, W.listOf ys.toArray e2), (P, oc'), (lc, W.listOf #[.int 7 t7] 0), (D, W.listOf #[.int x1 t1, .int x2 t2, .int x3 t3, .int x4 t4] e), (I, lI), (cell, oC), (dH, oH)]) (hp : Pen I 21 oc') (hd : oH.IsDictOf (strKind prog w) (hd4 D tF lc D2)) (lo : (dH == sysModules) = false)
    (hk : k = 1 ∨ k = 2) (hl : ys.length = 8 * k) (hns : ∀ i, 0 ≤ ns i ∧ ns i < 9) (hny : ∀ (i : Nat) (y : Value), ys[i]? = some y → ∃ t, y = Value.int (ns i) t)
    (n0 : D2 ≠ P) (n1 : lc ≠ P) (n2 : D ≠ P) (n3 : dH ≠ P) : JoinH prog w g L m s P I cell lI oC dH x1 x2 x3 x4 k { s with heap := h', toks := tk' } := by
  refine ⟨h', tk', oc', [(D2, W.listOf ys.toArray e2), (lc, W.listOf #[.int 7 t7] 0), (D, W.listOf #[.int x1 t1, .int x2 t2, .int x3 t3, .int x4 t4] e), (dH, oH)], ns, lc, t7, rfl, F, fun p hp => N p ?_, hp,
    ⟨dH, oH, D, tF, e, _, _, _, _, rfl, .tail _ (.tail _ (.tail _ (.head _))), lo, .tail _ (.tail _ (.head _)), .inl ⟨_, rfl⟩, .inl ⟨_, rfl⟩, .inl ⟨_, rfl⟩, .inl ⟨_, rfl⟩, .inr ⟨hk, D2, ys, e2, hd, .head _, by rw [List.size_toArray, hl], fun i v hv => .inl (hny i v (by simpa using hv))⟩⟩, hns, .tail _ (.head _),
    List.forall_mem_cons.mpr ⟨n0, ne3 n1 n2 n3⟩⟩
  simp only [List.mem_cons, List.not_mem_nil, or_false] at hp ⊢
  rcases hp with h | h | h | h | h | h | h <;> simp [h]
theorem step3 {h₀ h : Heap} {L P : Addr} {oc : Obj} {b c : Addr × Obj} {tl nw : List (Addr × Obj)} (N : News h₀ L h (tl ++ (P, oc) :: b :: c :: nw)) (l : ∀ q ∈ tl, ∀ p ∈ (P, oc) :: b :: c :: nw, p.1 ≠ q.1) (hn : ∀ p ∈ nw, p.1 ≠ P) :
    ∃ nw1, News h₀ L h ((P, oc) :: b :: c :: nw1) ∧ (∀ p ∈ nw, p ∈ nw1) ∧ (∀ p ∈ tl, p ∈ nw1) ∧ ∀ p ∈ nw1, p.1 ≠ P := by
  refine ⟨tl ++ nw, fun p hp => N p ?_, fun p hp => List.mem_append.mpr (.inr hp), fun p hp => List.mem_append.mpr (.inl hp), fun p hp => (List.mem_append.mp hp).elim (fun h => Ne.symm (l p h _ (.head _))) (hn p)⟩
  simp only [List.mem_cons, List.mem_append] at hp ⊢
  rcases hp with h | h | h | h | h <;> simp [h]
theorem step3C {h₀ h : Heap} {L P : Addr} {oc : Obj} {b c : Addr × Obj} {tl nw : List (Addr × Obj)} {r : Prop} (N : News h₀ L h (tl ++ (P, oc) :: b :: c :: nw)) (l : ∀ q ∈ tl, ∀ p ∈ (P, oc) :: b :: c :: nw, p.1 ≠ q.1) (hn : ∀ p ∈ nw, p.1 ≠ P)
    (f : ∀ nw1, News h₀ L h ((P, oc) :: b :: c :: nw1) → (∀ p ∈ nw, p ∈ nw1) → (∀ p ∈ tl, p ∈ nw1) → (∀ p ∈ nw1, p.1 ≠ P) → r) : r := ex1 (step3 N l hn) fun nw1 z => and4 z (f nw1)
theorem step5 {h₀ h : Heap} {L P : Addr} {oc : Obj} {x y b c : Addr × Obj} {tl nw : List (Addr × Obj)} (N : News h₀ L h (tl ++ x :: y :: (P, oc) :: b :: c :: nw)) (l : ∀ q ∈ tl, ∀ p ∈ x :: y :: (P, oc) :: b :: c :: nw, p.1 ≠ q.1) (hx : x.1 ≠ P) (hy : y.1 ≠ P) (hn : ∀ p ∈ nw, p.1 ≠ P) :
    ∃ nw1, News h₀ L h ((P, oc) :: b :: c :: nw1) ∧ (∀ p ∈ nw, p ∈ nw1) ∧ (∀ p ∈ tl, p ∈ nw1) ∧ ∀ p ∈ nw1, p.1 ≠ P := by
  refine ⟨tl ++ x :: y :: nw, fun p hp => N p ?_, fun p hp => List.mem_append.mpr (.inr (.tail _ (.tail _ hp))), fun p hp => List.mem_append.mpr (.inl hp), fun p hp => ?_⟩
  · simp only [List.mem_cons, List.mem_append] at hp ⊢
    rcases hp with h | h | h | h | h | h | h <;> simp [h]
  · rcases List.mem_append.mp hp with h | h
    · exact Ne.symm (l p h (P, oc) (.tail _ (.tail _ (.head _))))
    · rcases List.mem_cons.mp h with rfl | h
      · exact hx
      · rcases List.mem_cons.mp h with rfl | h
        · exact hy
        · exact hn p h
theorem step5C {h₀ h : Heap} {L P : Addr} {oc : Obj} {x y b c : Addr × Obj} {tl nw : List (Addr × Obj)} {r : Prop} (N : News h₀ L h (tl ++ x :: y :: (P, oc) :: b :: c :: nw)) (l : ∀ q ∈ tl, ∀ p ∈ x :: y :: (P, oc) :: b :: c :: nw, p.1 ≠ q.1) (hx : x.1 ≠ P) (hy : y.1 ≠ P) (hn : ∀ p ∈ nw, p.1 ≠ P)
    (f : ∀ nw1, News h₀ L h ((P, oc) :: b :: c :: nw1) → (∀ p ∈ nw, p ∈ nw1) → (∀ p ∈ tl, p ∈ nw1) → (∀ p ∈ nw1, p.1 ≠ P) → r) : r := ex1 (step5 N l hx hy hn) fun nw1 z => and4 z (f nw1)
theorem usePuL {prog : Program} {w : World} {p : Program} {loose : List Str} {mean : ExcName → Option Value} {mg mb : Str → Option Value} {dep : Nat} {f : Value} {vs : List Value} {s : Shared}
    {Out : List (Addr × Obj) → Value → Prop}
    {dp un : Nat} {gd : Option (List Code)} {cn : Str} {cs : Scope} {a : Addr} {ccd : Value} {cl : List (Str × Addr)} {outer : List Env} {A₀ : Around} {base h₀ : Heap} {L : Addr} {m : Str → Option Value}
    {Q E : Value → Shared → Prop} {P : Addr} {oc : Obj} {b c : Addr × Obj} {nw : List (Addr × Obj)}
    (C : Pu prog w p loose mean mg mb dep f vs s.heap Out)
    (B : Below A₀ base outer h₀) (F : Fr h₀ L s.heap m) (X : (hd.heap_39 w.params).In h₀) (N : News h₀ L s.heap ((P, oc) :: b :: c :: nw)) (T : Top p loose mean mg mb h₀) (hk : cs.kind = .function)
    (hd : dp + dep < recursionLimit) (hu : un + 8 * dep < cLine)
    (hn : ∀ p ∈ nw, p.1 ≠ P) (h : ∀ v h' tk' tl nw1, Out tl v → Fr h₀ L h' m → News h₀ L h' ((P, oc) :: b :: c :: nw1) → (∀ p ∈ nw, p ∈ nw1) → (∀ p ∈ tl, p ∈ nw1) → (∀ p ∈ nw1, p.1 ≠ P) → Q v { s with heap := h', toks := tk' }) :
    wpAny (model prog w) (ktrTop dp un gd cn cs L a ccd cl outer) (call f vs) Q E s := usePu C B F X N T hk hd hu fun v h' tk' tl o F9 N9 l9 => step3C N9 l9 hn fun nw1 N2 sA sB hn1 => h v h' tk' tl nw1 o F9 N2 sA sB hn1
theorem in3 {h₀ h : Heap} {L : Addr} {a b c : Addr × Obj} {nw : List (Addr × Obj)} (N : News h₀ L h (a :: b :: c :: nw)) : ∀ x o, In nw x o → h.get? x = some o := fun x o q => (N (x, o) (.tail _ (.tail _ (.tail _ q)))).1
abbrev Bnd4 (na nb nc nd ne nf : Int) : Prop := -4 ≤ na ∧ na ≤ 4 ∧ -4 ≤ nb ∧ nb ≤ 4 ∧ -4 ≤ nc ∧ nc ≤ 4 ∧ -4 ≤ nd ∧ nd ≤ 4 ∧ -4 ≤ ne ∧ ne ≤ 4 ∧ -4 ≤ nf ∧ nf ≤ 4
/-- a matrix is made -/
def JoinM (ps : Params) (g : Heap) (L : Addr) (m : Str → Option Value) (s : Shared) (P I : Addr) (bd : Int) (b c : Addr × Obj) (nw : List (Addr × Obj)) (st : Prop) (v : Value) (s' : Shared) : Prop :=
  ∃ h' tk' oc' nw1 na nb nc nd ne nf, s' = { s with heap := h', toks := tk' } ∧ Fr g L h' m ∧ News g L h' ((P, oc') :: b :: c :: nw1) ∧ (∀ p ∈ nw, p ∈ nw1) ∧ (∀ p ∈ nw1, p.1 ≠ P) ∧ Pen I bd oc' ∧ MatG ps (In nw1) v na nb nc nd ne nf ∧ (st → Straight na nb nc nd) ∧ Bnd4 na nb nc nd ne nf
theorem cutM {prog : Program} {w : World} {A : Around} {E : Value → Shared → Prop} {Q : Value → Shared → Prop} {s : Shared} {t : Sem Value} {ps : Params} {g : Heap} {L : Addr} {m : Str → Option Value} {P I : Addr} {bd : Int} {b c : Addr × Obj} {nw : List (Addr × Obj)} {st : Prop} (_F : Fr g L s.heap m)
    (hif : wpAny (model prog w) A t (JoinM ps g L m s P I bd b c nw st) E s)
    (hrest : ∀ v h' tk' oc' nw1 na nb nc nd ne nf, Fr g L h' m → News g L h' ((P, oc') :: b :: c :: nw1) → (∀ p ∈ nw, p ∈ nw1) → (∀ p ∈ nw1, p.1 ≠ P) → Pen I bd oc' → MatG ps (In nw1) v na nb nc nd ne nf → (st → Straight na nb nc nd) → Bnd4 na nb nc nd ne nf → Q v { s with heap := h', toks := tk' }) :
    wpAny (model prog w) A t Q E s := wpAny_mono hif (fun v s' z => ex10 z fun h' tk' oc' nw1 na nb nc nd ne nf z => and9 z fun e' h1 h2 h3 h4 h5 h6 h7 h8 => by subst e'; exact hrest v h' tk' oc' nw1 na nb nc nd ne nf h1 h2 h3 h4 h5 h6 h7 h8) fun _ _ e => e
theorem HeadAt.gen {prog : Program} {w : World} {G : Addr → Obj → Prop} {v : Value} {c : Addr} {k : Nat} {t : Int × Int × Int × Int} {ns : Nat → Int} (D : HeadAt prog w G v c k t.1 t.2.1 t.2.2.1 t.2.2.2 ns) :
    ∃ y1 y2 y3 y4 f, HeadAt prog w G v c k y1 y2 y3 y4 f ∧ Same5 y1 y2 y3 y4 f t ns := ⟨_, _, _, _, _, D, rfl, rfl, rfl, rfl, rfl⟩
theorem HeadAt.genC {prog : Program} {w : World} {G : Addr → Obj → Prop} {v : Value} {c : Addr} {k : Nat} {t : Int × Int × Int × Int} {ns : Nat → Int} {r : Prop} (D : HeadAt prog w G v c k t.1 t.2.1 t.2.2.1 t.2.2.2 ns)
    (f : ∀ y1 y2 y3 y4 f, HeadAt prog w G v c k y1 y2 y3 y4 f → Same5 y1 y2 y3 y4 f t ns → r) : r := f _ _ _ _ _ D ⟨rfl, rfl, rfl, rfl, rfl⟩
theorem MatG.genC {P : Params} {G : Addr → Obj → Prop} {v : Value} {a b c d e f : Int} {r : Prop} (D : MatG P G v a b c d e f) (k : ∀ a' b' c' d' e' f', MatG P G v a' b' c' d' e' f' → Same6 a' b' c' d' e' f' a b c d e f → r) : r := k _ _ _ _ _ _ D ⟨rfl, rfl, rfl, rfl, rfl, rfl⟩
theorem MatG.gen {P : Params} {G : Addr → Obj → Prop} {v : Value} {a b c d e f : Int} (D : MatG P G v a b c d e f) : ∃ a' b' c' d' e' f', MatG P G v a' b' c' d' e' f' ∧ Same6 a' b' c' d' e' f' a b c d e f := ⟨_, _, _, _, _, _, D, rfl, rfl, rfl, rfl, rfl, rfl⟩
theorem nDat_inv {tl : List (Addr × Obj)} {v : Value} {d e : Dat} (h : DatIn tl v (.tuple [d, e])) : ∃ a s q n, v = .ref a ∧ (a, ({ cls := .type "tuple", data := .seq #[s, q] n } : Obj)) ∈ tl ∧ DatIn tl s d ∧ DatIn tl q e := by
  cases h with
  | tuple hm r =>
    cases r with
    | cons h1 r =>
      cases r with
      | cons h2 r => cases r; exact ⟨_, _, _, _, rfl, hm, h1, h2⟩
theorem kqd_t (x : Int) (n : Nat) : kqdOk (n + 1) (tDat x) = true := by simp [tDat, kqdOk]
theorem kqd_p (x y : Int) (n : Nat) : kqdOk (n + 2) (pDat x y) = true := by simp [pDat, tDat, kqdOk]
theorem kqd_qs (k : Nat) (f : Nat → Int) : kqdOk 8 (qsDat k f) = true := by simp [qsDat, qDat, pDat, tDat, kqdOk]
theorem kqd_s (a b c d : Int) : kqdOk 8 (sDat a b c d) = true := by simp [sDat, tDat, kqdOk]
theorem kqd_n (a b c d : Int) (k : Nat) (f : Nat → Int) : kqdOk 8 (nDat a b c d k f) = true := by simp [nDat, sDat, qsDat, qDat, pDat, tDat, kqdOk]
/-- the same datum twice -/
theorem ne_dat {prog : Program} {w : World} {A : Around} {E : Value → Shared → Prop} {Q : Value → Shared → Prop} {s : Shared} {h₀ : Heap} {L : Addr} {news n1 n2 : List (Addr × Obj)} {a b : Value} {d e : Dat} (N : News h₀ L s.heap news) (ha : DatIn n1 a d) (sa : ∀ p ∈ n1, p ∈ news) (hb : DatIn n2 b e) (sb : ∀ p ∈ n2, p ∈ news) (ok : kqdOk 8 d = true) (he : d = e)
    (hu : A.units + 64 < cLine) (h : Q (.bool false) s) : wpAny (model prog w) A (compareOp .NotEq a b) Q E s := by
  subst he
  refine ex1 (kqd_in N 8 (ha.mono sa) ok) ?_
  intro as ra
  refine ex1 (kqd_in N 8 (hb.mono sb) ok) ?_
  intro bs rb
  have l := kqd_lay 8 d ok
  have q := (kqd_eqv 8 d d 8 ok ok).mpr rfl
  refine ne_dataH ra rb ?_ ?_ hu (by rw [q]; exact h)
  · unfold SeqAt.shaped; rw [l.1, Bool.true_and]; exact decide_eq_true (Nat.le_trans l.2 (by decide))
  · unfold SeqAt.shaped; rw [l.1, Bool.true_and]; exact decide_eq_true (Nat.le_trans l.2 (by decide))
def JoinN (g : Heap) (L : Addr) (m : Str → Option Value) (s : Shared) (P : Addr) (oc : Obj) (b c : Addr × Obj) (nw : List (Addr × Obj)) (s' : Shared) : Prop :=
  ∃ h' tk' nw1, s' = { s with heap := h', toks := tk' } ∧ Fr g L h' m ∧ News g L h' ((P, oc) :: b :: c :: nw1) ∧ (∀ p ∈ nw, p ∈ nw1) ∧ ∀ p ∈ nw1, p.1 ≠ P
theorem JoinN.intro {g : Heap} {L : Addr} {m : Str → Option Value} {s : Shared} {P : Addr} {oc : Obj} {b c : Addr × Obj} {nw nw1 : List (Addr × Obj)} {h' : Heap} {tk' : Nat} (F : Fr g L h' m) (N : News g L h' ((P, oc) :: b :: c :: nw1)) (s1 : ∀ p ∈ nw, p ∈ nw1) (hn : ∀ p ∈ nw1, p.1 ≠ P) : JoinN g L m s P oc b c nw { s with heap := h', toks := tk' } := ⟨h', tk', nw1, rfl, F, N, s1, hn⟩
theorem cutN {prog : Program} {w : World} {A : Around} {E : Value → Shared → Prop} {Q : Flow → Shared → Prop} {s : Shared} {t : Sem Flow} {g : Heap} {L : Addr} {m : Str → Option Value} {P : Addr} {oc : Obj} {b c : Addr × Obj} {nw : List (Addr × Obj)} (_F : Fr g L s.heap m) (_N : News g L s.heap ((P, oc) :: b :: c :: nw))
    (hif : wpAny (model prog w) A t (fun fl s' => fl = .next ∧ JoinN g L m s P oc b c nw s') E s)
    (hrest : ∀ h' tk' nw1, Fr g L h' m → News g L h' ((P, oc) :: b :: c :: nw1) → (∀ p ∈ nw, p ∈ nw1) → (∀ p ∈ nw1, p.1 ≠ P) → Q .next { s with heap := h', toks := tk' }) :
    wpAny (model prog w) A t Q E s := wpAny_mono hif (fun fl s' z => and2 z fun e z => ex3 z fun h' tk' nw1 z => and5 z fun e' h1 h2 h3 h4 => by subst e; subst e'; exact hrest h' tk' nw1 h1 h2 h3 h4) fun _ _ e => e
theorem nums_ex {ys : List Value} (h : ∀ (i : Nat) (y : Value), ys[i]? = some y → ∃ r t, y = Value.int r t ∧ 0 ≤ r ∧ r < 9) : ∃ ns : Nat → Int, (∀ i, 0 ≤ ns i ∧ ns i < 9) ∧ ∀ (i : Nat) (y : Value), ys[i]? = some y → ∃ t, y = Value.int (ns i) t := by
  refine ⟨fun i => match ys[i]? with | some (.int r _) => r | _ => 0, fun i => ?_, fun i y hy => ?_⟩
  · dsimp only
    split
    · next r t e =>
      refine ex2 (h i _ e) ?_
      intro r' t' zz9
      refine and3 zz9 ?_
      try clear zz9
      intro e' h1 h2
      cases e'
      exact ⟨h1, h2⟩
    · exact ⟨by omega, by omega⟩
  · refine ex2 (h i y hy) ?_
    intro r t zz9
    refine and2 zz9 ?_
    try clear zz9
    intro e9r152 zz8
    subst e9r152
    clear zz8
    exact ⟨t, by dsimp only; rw [hy]⟩

theorem four {val : Nat → Value → Prop} {ys : List Value} (hl : ys.length = 4) (hv : ∀ i y, ys[i]? = some y → val i y) : ∃ y0 y1 y2 y3, ys = [y0, y1, y2, y3] ∧ val 0 y0 ∧ val 1 y1 ∧ val 2 y2 ∧ val 3 y3 := by
  refine uncons hl ?_
  intro y0 r0 e0 h0
  refine uncons h0 ?_
  intro y1 r1 e1 h1
  refine uncons h1 ?_
  intro y2 r2 e2 h2
  refine uncons h2 ?_
  intro y3 r3 e3 h3
  have e : ys = [y0, y1, y2, y3] := by rw [e0, e1, e2, e3, List.eq_nil_of_length_eq_zero h3]
  exact ⟨y0, y1, y2, y3, e, hv 0 _ (by rw [e]; rfl), hv 1 _ (by rw [e]; rfl), hv 2 _ (by rw [e]; rfl), hv 3 _ (by rw [e]; rfl)⟩


section
variable {prog : Program} {w : World} {p : Program} {loose : List Str} {mean : ExcName → Option Value} {mg mb : Str → Option Value} {g : Heap}
theorem c_quarter {n : Int} {t : Tok} : Pu prog w p loose mean mg mb 24 (.ref 276) [.int n t] g (fun tl v => MatG w.params (In tl) v (qco n) (qsi n) (-(qsi n)) (qco n) 0 0) := by
  have h0 := Int.fmod_nonneg_of_pos n (show (0 : Int) < 4 by decide)
  have h1 := Int.fmod_lt_of_pos n (show (0 : Int) < 4 by decide)
  have h : n.fmod 4 = 0 ∨ n.fmod 4 = 1 ∨ n.fmod 4 = 2 ∨ n.fmod 4 = 3 := by omega
  rcases h with h | h | h | h <;> simp only [qco, qsi, h]
  · exact c_quarter0 h
  · exact c_quarter1 h
  · exact c_quarter2 h
  · exact c_quarter3 h
end
end


-- QzLoopT

section
open PySem.Spec
section
variable {prog : Program} {w : World} {A : Around} {E : Value → Shared → Prop} {s : Shared} {h₀ : Heap} {env : Env} {target : Expr} {body : List Stmt} {Q : Flow → Shared → Prop}

/-- a for over a tuple by what holds between its turns -/
theorem iter_invT {ax : Addr} {its : Array Value} {m₀ : Str → Option Value} {news : List (Addr × Obj)} (J : Nat → (Str → Option Value) → List (Addr × Obj) → Prop)
    (hh : A.handled = none) (F : Fr h₀ env.locals s.heap m₀) (N : News h₀ env.locals s.heap news) (hl : s.heap.IsTuple ax its) (hL : env.locals ≠ ax) (hJ : J 0 m₀ news)
    (step : ∀ (I : Addr) i v m₁ nw h₁ tk₁ own, its[i]? = some v → J i m₁ nw → (∃ o, (I, o) ∈ own) → (∀ p ∈ nw, p.1 ≠ I) → Fr h₀ env.locals h₁ m₁ → News h₀ env.locals h₁ (own ++ nw) →
      wpAny (model prog w) A (assign target env v) (fun _ s₃ => wpAny (model prog w) A (execs body env)
        (LoopStepV h₀ env.locals [I] own (J (i + 1)) { s with heap := h₁, toks := tk₁ } (fun v s' => Q (.ret v) s') fun s' => Q .next s') E s₃) E { s with heap := h₁, toks := tk₁ })
    (fin : ∀ h' tk m' nw, Fr h₀ env.locals h' m' → News h₀ env.locals h' nw → J its.size m' nw → Q .next { s with heap := h', toks := tk }) :
    wpAny (model prog w) A (pyIter (.ref ax)) (fun it s₂ => TurnsAt prog w A h₀ env target body Q E it s₂) E s := by
  have hlt : ax < s.heap.objs.size := by obtain ⟨_, e, _⟩ := hl; exact Heap.lt_size e
  have hne : ax ≠ s.heap.objs.size := Nat.ne_of_lt hlt
  refine wpAny_pyIter_tuple hl ?_
  have up : ∀ b o', s.heap.get? b = some o' → (s.heap.push { cls := .type "tuple_iterator", data := .fields #[.ref ax, .int 0 0] }).get? b = some o' := fun b o' e => Heap.get?_push_of_some _ e
  refine ⟨s.heap.objs.size, _, _, _, _, _, _, m₀, news, J, rfl, KTurns.ofWalks (Walks.tuple hh s.heap.objs.size ax hne its) fun i v s Q E st q => letGo_tupleiter st.1 q, ?_, ?_, ?_, ⟨⟨_, Heap.get?_push_size _ rfl, rfl, rfl⟩, hl.at fun o e => up _ _ e⟩, F.keeps up, N.grown up, hJ, ?_, ?_⟩
  · intro hm
    rcases List.mem_cons.mp hm with e | hm
    · exact absurd F.ns.lt (e ▸ Nat.lt_irrefl _)
    · exact hL (List.mem_singleton.mp hm)
  · intro b hb
    rw [List.mem_singleton.mp hb]; exact next_is_new F
  · intro p hp hI
    exact absurd (Heap.lt_size (N p hp).1) ((List.mem_singleton.mp hI) ▸ Nat.lt_irrefl _)
  · intro i v m₁ nw h₁ tk₁ own hi hP hJ hnw hown hg hmem hst F₁ N₁
    refine step s.heap.objs.size i v m₁ nw h₁ tk₁ own hP hJ (by obtain ⟨oI, hoI, _⟩ := hst.1; exact ⟨oI, hmem _ (by simp) (next_is_new F) _ hoI⟩) (fun p hp e => hnw p hp (by rw [e]; exact .head _)) F₁ N₁
  · intro h' tk m' nw F' N' _ hJ'
    exact fin h' tk m' nw F' N' hJ'
theorem stepI {h₀ h : Heap} {L I : Addr} {tl own nw : List (Addr × Obj)} (N : News h₀ L h (tl ++ (own ++ nw))) (l : ∀ q ∈ tl, ∀ p ∈ own ++ nw, p.1 ≠ q.1) (hI : ∃ o, (I, o) ∈ own) (hn : ∀ p ∈ nw, p.1 ≠ I) :
    ∃ nw1, News h₀ L h (own ++ nw1) ∧ (∀ p ∈ nw, p ∈ nw1) ∧ (∀ p ∈ tl, p ∈ nw1) ∧ ∀ p ∈ nw1, p.1 ≠ I := by
  refine ex1 hI ?_
  try clear hI
  intro o hI
  refine ⟨tl ++ nw, fun p hp => N p ?_, fun p hp => List.mem_append.mpr (.inr hp), fun p hp => List.mem_append.mpr (.inl hp), fun p hp => (List.mem_append.mp hp).elim (fun h => Ne.symm (l p h _ (List.mem_append.mpr (.inl hI)))) (hn p)⟩
  simp only [List.mem_append] at hp ⊢
  rcases hp with h | h | h <;> simp [h]
theorem stepIC {h₀ h : Heap} {L I : Addr} {tl own nw : List (Addr × Obj)} {r : Prop} (N : News h₀ L h (tl ++ (own ++ nw))) (l : ∀ q ∈ tl, ∀ p ∈ own ++ nw, p.1 ≠ q.1) (hI : ∃ o, (I, o) ∈ own) (hn : ∀ p ∈ nw, p.1 ≠ I)
    (f : ∀ nw1, News h₀ L h (own ++ nw1) → (∀ p ∈ nw, p ∈ nw1) → (∀ p ∈ tl, p ∈ nw1) → (∀ p ∈ nw1, p.1 ≠ I) → r) : r := ex1 (stepI N l hI hn) fun nw1 z => and4 z (f nw1)
theorem inI {h₀ h : Heap} {L : Addr} {own nw : List (Addr × Obj)} (N : News h₀ L h (own ++ nw)) : ∀ x o, (x, o) ∈ nw → h.get? x = some o := fun x o q => (N (x, o) (List.mem_append.mpr (.inr q))).1
theorem L_neT {h : Heap} {L l : Addr} {m : Str → Option Value} {its : Array Value} (F : Fr h₀ L h m) (hl : h.IsTuple l its) : L ≠ l := fun e => by
  refine ex3 (F.ns) ?_
  intro oL es ep zz9
  refine and3 zz9 ?_
  try clear zz9
  intro h1 h2 _
  refine ex1 hl ?_
  try clear hl
  intro o zz9
  refine and3 zz9 ?_
  try clear zz9
  intro h3 _ zz9
  refine ex1 zz9 ?_
  try clear zz9
  intro n h4
  rw [e, h3] at h1
  cases h1
  rw [h4] at h2
  cases h2
end
end


-- QzRet

section
open PySem.Spec
/-- what told gives of [7] -/
def told7 : Dat := .tuple [.str (Str.ofString "array"), .tuple [.str (Str.ofString "int"), .int 7]]
theorem told7_ok : kqdOk 8 told7 = true := by decide +kernel
theorem eq_ret {prog : Program} {w : World} {A : Around} {E : Value → Shared → Prop} {Q : Value → Shared → Prop} {s : Shared} {h₀ : Heap} {L : Addr} {news n1 n2 : List (Addr × Obj)} {T1 T2 : Addr} {a b : Value} {t1 t2 : Tok} {k1 k2 : Nat} {x y : Bool} (N : News h₀ L s.heap news)
    (m1 : (T1, ({ cls := .type "tuple", data := .seq #[.int 4 t1, a, .bool x] k1 } : Obj)) ∈ news) (m2 : (T2, ({ cls := .type "tuple", data := .seq #[.int 4 t2, b, .bool y] k2 } : Obj)) ∈ news)
    (ha : DatIn n1 a told7) (sa : ∀ p ∈ n1, p ∈ news) (hb : DatIn n2 b told7) (sb : ∀ p ∈ n2, p ∈ news) (e : x = y)
    (hu : A.units + 64 < cLine) (h : Q (.bool true) s) : wpAny (model prog w) A (compareOp .Eq (.ref T1) (.ref T2)) Q E s := by
  subst e
  refine ex1 (kqd_in N 8 (ha.mono sa) told7_ok) ?_
  intro as ra
  refine ex1 (kqd_in N 8 (hb.mono sb) told7_ok) ?_
  intro bs rb
  have l := kqd_lay 8 told7 told7_ok
  have q := (kqd_eqv 8 told7 told7 8 told7_ok told7_ok).mpr rfl
  have r1 : Reads s.heap (.ref T1) (.tuple [.int 4, kqdP told7, .bool x]) _ := reads_tuple_at (N _ m1).1 rfl rfl (ReadsAll.cons (Reads.int 4 t1) (ReadsAll.cons ra (ReadsAll.cons (Reads.bool x) ReadsAll.nil)))
  have r2 : Reads s.heap (.ref T2) (.tuple [.int 4, kqdP told7, .bool x]) _ := reads_tuple_at (N _ m2).1 rfl rfl (ReadsAll.cons (Reads.int 4 t2) (ReadsAll.cons rb (ReadsAll.cons (Reads.bool x) ReadsAll.nil)))
  have sh : SeqAt.shaped (.tuple [.int 4, kqdP told7, .bool x]) = true := by
    unfold SeqAt.shaped
    have l2 := l.2
    simp only [PyData.canLay0, PyData.canLayAll0, PyData.depth, PyData.depthAll, l.1, Bool.and_self, Bool.true_and]
    exact decide_eq_true (by omega)
  refine eq_dataH r1 r2 sh sh hu ?_
  have e : PyData.eqv (.tuple [.int 4, kqdP told7, .bool x]) (.tuple [.int 4, kqdP told7, .bool x]) = true := by
    simp [PyData.eqv, PyData.eqvAll, q]
  rw [e]; exact h
end


-- law7

section
open PyProof.Rows.LCg PyProof.Rows.LCp
local macro_rules | `(tactic| walk_at "call ref") => `(tactic| (k_here; refine stop9 ?_))
local macro_rules | `(tactic| walk_at "exec If") => `(tactic| (k_here; refine stop9 ?_))
local macro_rules | `(tactic| walk_at "eval IfExp") => `(tactic| (k_here; refine stop9 ?_))
local macro_rules | `(tactic| walk_at "subscriptTail") => `(tactic| (k_here; (with_reducible show wpAny _ _ (subscriptTail _ _ (Value.ref _) (Value.int _ _)) _ _ _); refine stop9 ?_))
local macro_rules | `(tactic| walk_at "compareOp NotEq") => `(tactic| (k_here; refine stop9 ?_))

local macro_rules | `(tactic| walk_at "callWith ref") => `(tactic| (k_here; (with_reducible show wpAny _ _ (callWith _ (Value.ref 262) _ _ _) _ _ _); refine stop9 ?_))
local macro_rules | `(tactic| walk_at "QZ nm") => `(tactic| first | exact rfl | (repeat (first | assumption | refine nm_skip (by decide) ?_)))
local macro_rules | `(tactic| walk_at "eval Name") => `(tactic| (k_here; k_dflt (refine' nameX_L ?F ?v ?_ ?a ?b; (case F => k_asm); (case a => rfl); (case b => rfl); (case v => walk_at "QZ nm"); k_whole)))
local macro_rules | `(tactic| walk_at "subscriptTail") => `(tactic| (k_here; (with_reducible show wpAny _ _ (subscriptTail _ _ (Value.ref _) (Value.str _ _)) _ _ _); refine stop9 ?_))
local macro_rules | `(tactic| walk_at "compareOp In str ref") => `(tactic| (k_here; refine stop9 ?_))
local macro_rules | `(tactic| walk_at "compareOp Eq ref ref") => `(tactic| (k_here; refine stop9 ?_))
theorem step0 {h₀ h : Heap} {L : Addr} {tl nw : List (Addr × Obj)} (N : News h₀ L h (tl ++ nw)) : ∃ nw1, News h₀ L h nw1 ∧ (∀ p ∈ nw, p ∈ nw1) ∧ ∀ p ∈ tl, p ∈ nw1 := ⟨_, N, fun _ h => List.mem_append.mpr (.inr h), fun _ h => List.mem_append.mpr (.inl h)⟩
theorem step0C {h₀ h : Heap} {L : Addr} {tl nw : List (Addr × Obj)} {r : Prop} (N : News h₀ L h (tl ++ nw)) (f : ∀ nw1, News h₀ L h nw1 → (∀ p ∈ nw, p ∈ nw1) → (∀ p ∈ tl, p ∈ nw1) → r) : r := f _ N (fun _ h => List.mem_append.mpr (.inr h)) fun _ h => List.mem_append.mpr (.inl h)
theorem usePuLI {prog : Program} {w : World} {p : Program} {loose : List Str} {mean : ExcName → Option Value} {mg mb : Str → Option Value} {dep : Nat} {f : Value} {vs : List Value} {s : Shared}
    {Out : List (Addr × Obj) → Value → Prop}
    {dp un : Nat} {gd : Option (List Code)} {cn : Str} {cs : Scope} {a : Addr} {ccd : Value} {cl : List (Str × Addr)} {outer : List Env} {A₀ : Around} {base h₀ : Heap} {L : Addr} {m : Str → Option Value}
    {Q E : Value → Shared → Prop} {I : Addr} {own nw : List (Addr × Obj)}
    (C : Pu prog w p loose mean mg mb dep f vs s.heap Out)
    (B : Below A₀ base outer h₀) (F : Fr h₀ L s.heap m) (X : (hd.heap_39 w.params).In h₀) (N : News h₀ L s.heap (own ++ nw)) (T : Top p loose mean mg mb h₀) (hk : cs.kind = .function)
    (hd : dp + dep < recursionLimit) (hu : un + 8 * dep < cLine)
    (hI : ∃ o, (I, o) ∈ own) (hn : ∀ p ∈ nw, p.1 ≠ I) (h : ∀ v h' tk' tl nw1, Out tl v → Fr h₀ L h' m → News h₀ L h' (own ++ nw1) → (∀ p ∈ nw, p ∈ nw1) → (∀ p ∈ tl, p ∈ nw1) → (∀ p ∈ nw1, p.1 ≠ I) → Q v { s with heap := h', toks := tk' }) :
    wpAny (model prog w) (ktrTop dp un gd cn cs L a ccd cl outer) (call f vs) Q E s := usePu C B F X N T hk hd hu fun v h' tk' tl o F9 N9 l9 => stepIC N9 l9 hI hn fun nw1 N2 sA sB hn1 => h v h' tk' tl nw1 o F9 N2 sA sB hn1
theorem usePuL0 {prog : Program} {w : World} {p : Program} {loose : List Str} {mean : ExcName → Option Value} {mg mb : Str → Option Value} {dep : Nat} {f : Value} {vs : List Value} {s : Shared}
    {Out : List (Addr × Obj) → Value → Prop}
    {dp un : Nat} {gd : Option (List Code)} {cn : Str} {cs : Scope} {a : Addr} {ccd : Value} {cl : List (Str × Addr)} {outer : List Env} {A₀ : Around} {base h₀ : Heap} {L : Addr} {m : Str → Option Value}
    {Q E : Value → Shared → Prop} {nw : List (Addr × Obj)}
    (C : Pu prog w p loose mean mg mb dep f vs s.heap Out)
    (B : Below A₀ base outer h₀) (F : Fr h₀ L s.heap m) (X : (hd.heap_39 w.params).In h₀) (N : News h₀ L s.heap (nw)) (T : Top p loose mean mg mb h₀) (hk : cs.kind = .function)
    (hd : dp + dep < recursionLimit) (hu : un + 8 * dep < cLine)
    (h : ∀ v h' tk' tl nw1, Out tl v → Fr h₀ L h' m → News h₀ L h' nw1 → (∀ p ∈ nw, p ∈ nw1) → (∀ p ∈ tl, p ∈ nw1) → Q v { s with heap := h', toks := tk' }) :
    wpAny (model prog w) (ktrTop dp un gd cn cs L a ccd cl outer) (call f vs) Q E s := usePu C B F X N T hk hd hu fun v h' tk' tl o F9 N9 l9 => h v h' tk' tl _ o F9 N9 (fun _ h => List.mem_append.mpr (.inr h)) fun _ h => List.mem_append.mpr (.inl h)
theorem cons0C {h₀ h : Heap} {L : Addr} {a : Addr × Obj} {nw : List (Addr × Obj)} {r : Prop} (N : News h₀ L h (a :: nw)) (f : ∀ nw1, News h₀ L h nw1 → (∀ p ∈ nw, p ∈ nw1) → a ∈ nw1 → r) : r := f _ N (fun _ h => .tail _ h) (.head _)
theorem cons0 {h₀ h : Heap} {L : Addr} {a : Addr × Obj} {nw : List (Addr × Obj)} (N : News h₀ L h (a :: nw)) : ∃ nw1, News h₀ L h nw1 ∧ (∀ p ∈ nw, p ∈ nw1) ∧ a ∈ nw1 := ⟨_, N, fun _ h => .tail _ h, .head _⟩
theorem in0 {h₀ h : Heap} {L : Addr} {nw : List (Addr × Obj)} (N : News h₀ L h nw) : ∀ x o, In nw x o → h.get? x = some o := fun x o q => (N (x, o) q).1
/-- a matrix and the one that undoes it -/
def PairB (P : Params) (G : Addr → Obj → Prop) (v : Value) : Prop := ∃ T w1 w2 m1 m2 m3 m4 m5 m6 u1 u2 u3 u4 u5 u6, v = .ref T ∧ G T { cls := .type "tuple", data := .seq #[w1, w2] } ∧ MatG P G w1 m1 m2 m3 m4 m5 m6 ∧ MatG P G w2 u1 u2 u3 u4 u5 u6 ∧
  Same6 1 0 0 1 0 0 (m1 * u1 + m2 * u3) (m1 * u2 + m2 * u4) (m3 * u1 + m4 * u3) (m3 * u2 + m4 * u4) (u1 * m5 + u3 * m6 + u5) (u2 * m5 + u4 * m6 + u6) ∧ Straight m1 m2 m3 m4 ∧ Straight u1 u2 u3 u4 ∧ Bnd9 m1 m2 m3 m4 m5 m6
theorem PairB.mk {P : Params} {G : Addr → Obj → Prop} {T : Addr} {w1 w2 : Value} {m1 m2 m3 m4 m5 m6 u1 u2 u3 u4 u5 u6 : Int} (h : G T { cls := .type "tuple", data := .seq #[w1, w2] }) (h1 : MatG P G w1 m1 m2 m3 m4 m5 m6) (h2 : MatG P G w2 u1 u2 u3 u4 u5 u6)
    (e : Same6 1 0 0 1 0 0 (m1 * u1 + m2 * u3) (m1 * u2 + m2 * u4) (m3 * u1 + m4 * u3) (m3 * u2 + m4 * u4) (u1 * m5 + u3 * m6 + u5) (u2 * m5 + u4 * m6 + u6)) (s1 : Straight m1 m2 m3 m4) (s2 : Straight u1 u2 u3 u4) (b : Bnd9 m1 m2 m3 m4 m5 m6) : PairB P G (.ref T) :=
  ⟨T, w1, w2, m1, m2, m3, m4, m5, m6, u1, u2, u3, u4, u5, u6, rfl, h, h1, h2, e, s1, s2, b⟩
def LoopL (ms : List (Str × Value)) (nwL : List (Addr × Obj)) (m : Str → Option Value) (nw : List (Addr × Obj)) : Prop := (∀ x ∈ ms, m x.1 = some x.2) ∧ ∀ p ∈ nwL, p ∈ nw
theorem two_of {P : Value → Prop} {a b : Value} (ha : P a) (hb : P b) : ∀ (i : Nat) (v : Value), (#[a, b] : Array Value)[i]? = some v → P v := fun i v h => by
  match i, h with
  | 0, h => cases h; exact ha
  | 1, h => cases h; exact hb
theorem names5 {m : Str → Option Value} {k1 k2 k3 k4 k5 : Str} {u1 u2 u3 u4 u5 : Value} (h1 : m k1 = some u1) (h2 : m k2 = some u2) (h3 : m k3 = some u3) (h4 : m k4 = some u4) (h5 : m k5 = some u5) : ∀ x ∈ [(k1, u1), (k2, u2), (k3, u3), (k4, u4), (k5, u5)], m x.1 = some x.2 := fun x hx => by
  simp only [List.mem_cons, List.not_mem_nil, or_false] at hx
  rcases hx with rfl | rfl | rfl | rfl | rfl <;> assumption
theorem names5b {m : Str → Option Value} {a b c d e u v : Value} (h1 : m (Str.ofString "shelf") = some a) (h2 : m (Str.ofString "head") = some b) (h3 : m (Str.ofString "plain") = some c) (h4 : m (Str.ofString "twice") = some d) (h5 : m (Str.ofString "many") = some e) :
    ∀ x ∈ [(Str.ofString "shelf", a), (Str.ofString "head", b), (Str.ofString "plain", c), (Str.ofString "twice", d), (Str.ofString "many", e)], (fun y => if y = Str.ofString "back" then some v else if y = Str.ofString "there" then some u else m y) x.1 = some x.2 :=
  names5 (m := fun y => if y = Str.ofString "back" then some v else if y = Str.ofString "there" then some u else m y) (nm_skip (by decide) (nm_skip (by decide) h1)) (nm_skip (by decide) (nm_skip (by decide) h2)) (nm_skip (by decide) (nm_skip (by decide) h3)) (nm_skip (by decide) (nm_skip (by decide) h4)) (nm_skip (by decide) (nm_skip (by decide) h5))
theorem told_dat {tl : List (Addr × Obj)} {v : Value} (h : ∃ q a t', v = .ref q ∧ (q, tupO [.str (Str.ofString "array") t', a]) ∈ tl ∧ OTellI 7 tl a) : DatIn tl v told7 := by
  refine ex3 h ?_
  try clear h
  intro q a t' zz9
  refine and3 zz9 ?_
  try clear zz9
  intro e9r153 h1 h2
  subst e9r153
  cases h2 with
  | mk q2 t u _ h3 => exact .tuple (vs := [_, .ref q2]) h1 (.cons (.str _ _) (.cons (.tuple (vs := [.str _ u, .int 7 t]) h3 (.cons (.str _ _) (.cons (.int _ _) .nil))) .nil))
/-- what the end reads of a moved annotation -/
theorem HeadAt.end {prog : Program} {w : World} {G : Addr → Obj → Prop} {v : Value} {c : Addr} {k : Nat} {x1 x2 x3 x4 : Int} {ns : Nat → Int} (D : HeadAt prog w G v c k x1 x2 x3 x4 ns) :
    ∃ d o t kvs, v = .ref d ∧ G d o ∧ (d == sysModules) = false ∧ o.IsDictOf (strKind prog w) kvs ∧ valueAt kvs (Str.ofString "F") = some (.int 4 t) ∧ valueAt kvs (Str.ofString "Contents") = some (.ref c) ∧ (valueAt kvs (Str.ofString "QuadPoints")).isSome = decide ((k : Int) > 0) := by
  refine ex9 D ?_
  try clear D
  intro d o r t e w1 w2 w3 w4 zz9
  refine and9 zz9 ?_
  try clear zz9
  intro e9r154 h2 h3 h4 n1 n2 n3 n4 h
  subst e9r154
  rcases h with ⟨rfl, hk⟩ | ⟨hk, q, vs, e', hd, -⟩
  · exact ⟨d, o, t, _, rfl, h2, h3, hk, rfl, rfl, rfl⟩
  · refine ⟨d, o, t, _, rfl, h2, h3, hd, rfl, rfl, ?_⟩
    rw [show decide ((k : Int) > 0) = true from decide_eq_true (by omega)]
    rfl
theorem sm9 {x : Int} (h1 : 0 ≤ x) (h2 : x < 9) : Sm x := ⟨by omega, by omega⟩
theorem sm_4 {x : Int} (h1 : -4 ≤ x) (h2 : x ≤ 4) : Sm x := ⟨by omega, by omega⟩
theorem sm_bnd4 {a b c d e f : Int} (h : Bnd4 a b c d e f) : Sm a ∧ Sm b ∧ Sm c ∧ Sm d ∧ Sm e ∧ Sm f :=
  ⟨sm_4 h.1 h.2.1, sm_4 h.2.2.1 h.2.2.2.1, sm_4 h.2.2.2.2.1 h.2.2.2.2.2.1, sm_4 h.2.2.2.2.2.2.1 h.2.2.2.2.2.2.2.1, sm_4 h.2.2.2.2.2.2.2.2.1 h.2.2.2.2.2.2.2.2.2.1, sm_4 h.2.2.2.2.2.2.2.2.2.2.1 h.2.2.2.2.2.2.2.2.2.2.2⟩
theorem bnd49 {a b c d e f : Int} (h : Bnd4 a b c d e f) : Bnd9 a b c d e f := by
  refine and12 h ?_
  try clear h
  intro h1 h2 h3 h4 h5 h6 h7 h8 h9 h10 h11 h12
  exact ⟨by omega, by omega, by omega, by omega, by omega, by omega, by omega, by omega, by omega, by omega, by omega, by omega⟩
theorem sDat_eq {B1 B2 B3 B4 C1 C2 C3 C4 : Int} (h : B1 = C1 ∧ B2 = C2 ∧ B3 = C3 ∧ B4 = C4) : sDat (min B1 B3) (min B2 B4) (max B1 B3) (max B2 B4) = sDat (min C1 C3) (min C2 C4) (max C1 C3) (max C2 C4) := by
  refine and4 h ?_
  try clear h
  intro e9r155 e9r156 e9r157 e9r158
  subst e9r155
  subst e9r156
  subst e9r157
  subst e9r158
  rfl
theorem nDat_eq {B1 B2 B3 B4 x1 x2 x3 x4 : Int} {k : Nat} {f ns : Nat → Int} (h : min B1 B3 = min x1 x3 ∧ min B2 B4 = min x2 x4 ∧ max B1 B3 = max x1 x3 ∧ max B2 B4 = max x2 x4 ∧ f = ns) : nDat (min B1 B3) (min B2 B4) (max B1 B3) (max B2 B4) k f = nDat (min x1 x3) (min x2 x4) (max x1 x3) (max x2 x4) k ns := by
  refine and5 h ?_
  try clear h
  intro h1 h2 h3 h4 e9r159
  subst e9r159
  rw [h1, h2, h3, h4]
theorem method_mat {prog : Program} {w : World} {A : Around} {E : Value → Shared → Prop} {s : Shared} {h₀ : Heap} {L : Addr} {m : Str → Option Value} {v : Value} {a b c d e f : Int} {pl : Sem Bool} {Q : Value × List Value → Shared → Prop} (F : Fr h₀ L s.heap m) (X₀ : (hd.heap_39 w.params).In h₀) (D : MatG w.params (At s.heap) v a b c d e f)
    (h : Q (.ref 222, [v]) s) : wpAny (model prog w) A (getMethod v (Str.ofString "times") pl) Q E s := by
  refine ex14 D ?_
  try clear D
  intro x dx v1 v2 v3 v4 v5 v6 t1 t2 t3 t4 t5 t6 zz9
  refine and4 zz9 ?_
  try clear zz9
  intro e9r160 h1 h2 zz8
  subst e9r160
  clear zz8
  k_dflt (refine' method_inst F X₀ (W.InstAt.mk h1 rfl rfl h2) ?k4 ?k5 ?k6 ?k7 h; (case k4 => k_is); (case k5 => k_is); (case k6 => k_is); (case k7 => k_get))
namespace main
theorem tw11255788167545685810 : True := trivial
theorem tw11788694648176200384 : True := trivial
theorem tw14719278823705532421 : True := trivial
theorem tw7761909678398826563 : True := trivial
theorem tw637593296394935576 : True := trivial
theorem tw8987713451686110483 : True := trivial
theorem tw17107470781465269448 : True := trivial
theorem tw9324673450677099816 : True := trivial
theorem tw10007557884979589591 : True := trivial
theorem tw11100201520535359782 : True := trivial
theorem tw6017113454619517913 : True := trivial
theorem tw4098526322139660576 : True := trivial
theorem tw9887643865723895825 : True := trivial
theorem tw4173754437281016916 : True := trivial
theorem tw14861243157314941770 : True := trivial
theorem tw9846252137925131745 : True := trivial
theorem tw15863190821022656612 : True := trivial
theorem tw2301916412177747932 : True := trivial
theorem tw17753911257811662681 : True := trivial
theorem tw9902649584779239750 : True := trivial
theorem tw933255574505885978 : True := trivial
theorem tw5990672571335182537 : True := trivial
theorem tw4426090822918472667 : True := trivial
theorem tw13474837697684970535 : True := trivial
theorem tw18280920893281373692 : True := trivial
theorem tw10769439823926559095 : True := trivial
theorem tw15021491781620874299 : True := trivial
theorem tw13316647270946534599 : True := trivial
theorem tw7455404110019793924 : True := trivial
theorem tw15859455648400900640 : True := trivial
theorem tw955173901387357952 : True := trivial
theorem tw17931748929591951914 : True := trivial
theorem tw10781128096165526606 : True := trivial
theorem tw4051531633575799952 : True := trivial
theorem tw7208228028700895430 : True := trivial
theorem tw12693257113455178163 : True := trivial
theorem tw12525948560761729373 : True := trivial
theorem tw15103286303444719533 : True := trivial
theorem tw17773928737173262761 : True := trivial
theorem tw7610877575970440475 : True := trivial
theorem tw9378068682086001401 : True := trivial
theorem tw4748521303261386418 : True := trivial
theorem tw14162596220754164469 : True := trivial
theorem tw15784993414514109614 : True := trivial
theorem tw6419478564444047921 : True := trivial
theorem tw1867165101533006721 : True := trivial
theorem tw828798059377274037 : True := trivial
theorem tw7232050899193002890 : True := trivial
theorem tw3102564980439506825 : True := trivial
theorem tw7337595169028838459 : True := trivial
theorem tw4962997734041102146 : True := trivial
theorem tw14346556216915236103 : True := trivial
theorem tw15785742597697756319 : True := trivial
theorem tw17746021337234230217 : True := trivial
theorem tw2993611298280152419 : True := trivial
theorem tw2828475663026390810 : True := trivial
theorem tw8789674722965850930 : True := trivial
theorem tw11709226370289256523 : True := trivial
theorem tw5169609697982719274 : True := trivial
theorem tw17270665351007592338 : True := trivial
theorem tw5508150386713000621 : True := trivial
theorem tw12193224321672329730 : True := trivial
theorem tw2135200274534553009 : True := trivial
theorem tw14081371352430454316 : True := trivial
theorem tw5659385532375236467 : True := trivial
theorem tw5195815315071109742 : True := trivial
theorem tw3633345857231146436 : True := trivial
theorem tw11144241319949676321 : True := trivial
theorem tw3198015056633541366 : True := trivial
theorem tw12787578097116170018 : True := trivial
theorem tw6627818623196930546 : True := trivial
theorem tw8993959799114297991 : True := trivial
theorem tw13725452587157063051 : True := trivial
theorem tw15633461758556882312 : True := trivial
theorem tw5447139216088226982 : True := trivial
theorem tw4486976688529436538 : True := trivial
theorem tw8566640240831595265 : True := trivial
theorem tw10956388489476711457 : True := trivial
theorem tw8849740644773078186 : True := trivial
theorem tw12598461198120151442 : True := trivial
theorem tw825166158990796438 : True := trivial
theorem tw14113973658720476799 : True := trivial
theorem tw17229617729449090915 : True := trivial
theorem tw10404326907011647939 : True := trivial
theorem tw18034110136042411937 : True := trivial
theorem tw2349221981286009939 : True := trivial
theorem tw646530735913801260 : True := trivial
theorem tw7861718918749771311 : True := trivial
theorem tw15349827598765533769 : True := trivial
theorem tw3316360718839204547 : True := trivial
theorem tw16438859996663879594 : True := trivial
theorem tw12994225268267774602 : True := trivial
theorem tw3565157216944610119 : True := trivial
theorem tw2714872765261177932 : True := trivial
theorem tw14103205141495341229 : True := trivial
theorem tw120882829000121448 : True := trivial
theorem tw11547917647690279266 : True := trivial
theorem tw16349493914910629051 : True := trivial
theorem tw8303069680226287945 : True := trivial
theorem tw14803848095915246884 : True := trivial
theorem tw11013516149286616167 : True := trivial
theorem tw589156630746300393 : True := trivial
theorem tw17060311893054612671 : True := trivial
theorem tw4696567322126703293 : True := trivial
theorem tw12102259280655780197 : True := trivial
theorem tw316666885060537948 : True := trivial
theorem tw1804665297779905574 : True := trivial
theorem tw7206862597223444225 : True := trivial
theorem tw15270553434173078759 : True := trivial
theorem tw10830527483647455999 : True := trivial
theorem tw13095498015697492545 : True := trivial
theorem tw16490718244913452842 : True := trivial
theorem tw6629854031636813575 : True := trivial
theorem tw7940699239724431509 : True := trivial
theorem tw15512749338085115833 : True := trivial
theorem tw18035980786237070173 : True := trivial
theorem tw10336267360636491993 : True := trivial
theorem tw1629670305819847692 : True := trivial
theorem tw4422361503742435470 : True := trivial
theorem tw7684187191693221463 : True := trivial
theorem tw3285289712415749940 : True := trivial
theorem tw16294330848357057409 : True := trivial
theorem tw7368602118891174748 : True := trivial
theorem tw15186931701961180951 : True := trivial
theorem tw8131261303627717652 : True := trivial
theorem tw5007518029125586095 : True := trivial
theorem tw4980306626868474661 : True := trivial
theorem tw2946879247783900886 : True := trivial
theorem tw12023984318553785059 : True := trivial
theorem tw2632861722112469138 : True := trivial
theorem tw9811098150048031910 : True := trivial
theorem tw3329065754601536937 : True := trivial
theorem tw8634249853248204704 : True := trivial
theorem tw13023163396604528822 : True := trivial
theorem tw10553498604964300994 : True := trivial
theorem tw18313708515170024395 : True := trivial
theorem tw929392155630508469 : True := trivial
theorem tw8353152785590622890 : True := trivial
theorem tw10715800680178291086 : True := trivial
theorem tw12118467048827563274 : True := trivial
theorem tw1308492999798960795 : True := trivial
theorem tw1118140078167406691 : True := trivial
theorem tw3573801285747887725 : True := trivial
theorem tw18272324169010292293 : True := trivial
theorem tw13801006455571677203 : True := trivial
theorem tw2168065078814064295 : True := trivial
theorem tw17314930998383619376 : True := trivial
theorem tw12795832105739364668 : True := trivial
theorem tw5686888044976132013 : True := trivial
theorem tw5195861470028428481 : True := trivial
theorem tw3995112505495118442 : True := trivial
theorem tw6620955749975449608 : True := trivial
theorem tw4186698892901248356 : True := trivial
theorem tw8079933421207565703 : True := trivial
theorem tw9791804990074729551 : True := trivial
theorem tw9463132343550006176 : True := trivial
theorem tw11684613910786388320 : True := trivial
theorem tw12521742524384389085 : True := trivial
theorem tw13945394402207151330 : True := trivial
theorem tw8971248281147196560 : True := trivial
theorem tw7768204864589414087 : True := trivial
theorem tw6874426376625793966 : True := trivial
theorem tw7530515675616814456 : True := trivial
theorem tw7844804232099172415 : True := trivial
theorem tw14820573221538318711 : True := trivial
theorem tw14975170143921965803 : True := trivial
theorem tw16046901358708922649 : True := trivial
theorem tw4153802083418846540 : True := trivial
theorem tw15523832005387455659 : True := trivial
theorem tw12685016371861559727 : True := trivial
theorem tw10947638410890762509 : True := trivial
theorem tw11865732364837593703 : True := trivial
theorem tw8395987508298869397 : True := trivial
theorem tw14580020408024787039 : True := trivial
theorem tw1432541656851101331 : True := trivial
theorem tw9368068487134285629 : True := trivial
theorem tw17220352417818036178 : True := trivial
theorem tw6932203378046460823 : True := trivial
theorem tw16758519956600739862 : True := trivial
theorem tw16643469371388197866 : True := trivial
theorem tw11690832893847875450 : True := trivial
theorem tw2082244564841894881 : True := trivial
theorem tw17269567363674878156 : True := trivial
theorem tw5538487142455873699 : True := trivial
theorem tw8438230334349591724 : True := trivial
theorem tw13675080783335136061 : True := trivial
theorem tw14910490924220014271 : True := trivial
theorem tw16438523106852141907 : True := trivial
theorem tw13284050089225519257 : True := trivial
theorem tw15645750039097637212 : True := trivial
theorem tw14171438684984242410 : True := trivial
theorem tw12485437859450704008 : True := trivial
theorem tw5833122560964855125 : True := trivial
theorem tw6895494219142062365 : True := trivial
theorem tw12905699230423198967 : True := trivial
theorem tw11329533924706193571 : True := trivial
theorem tw18048748974955518759 : True := trivial
theorem tw1147445613260581654 : True := trivial
theorem tw7025206491648481370 : True := trivial
theorem tw585353807036325491 : True := trivial
theorem tw4562442515991916571 : True := trivial
theorem tw14646784417370328770 : True := trivial
theorem tw3167652074366318772 : True := trivial
theorem tw15229644778682521646 : True := trivial
theorem tw15937927435869501747 : True := trivial
theorem tw15745155531858410804 : True := trivial
theorem tw11685924253829568727 : True := trivial
theorem tw3453083646410830971 : True := trivial
theorem tw336652960283960942 : True := trivial
theorem tw8352259087482416039 : True := trivial
theorem tw1334129910367332151 : True := trivial
theorem tw16900577644895955940 : True := trivial
theorem tw18315435171094273118 : True := trivial
theorem tw8274237558294144178 : True := trivial
theorem tw12706156747660190151 : True := trivial
theorem tw8826700359117910662 : True := trivial
theorem tw18381254185962987467 : True := trivial
theorem tw15221743514989247933 : True := trivial
theorem tw2428536020852554004 : True := trivial
theorem tw3359927830602069587 : True := trivial
theorem tw10832564302689397190 : True := trivial
theorem tw11054115269063685265 : True := trivial
theorem tw14367740607761267114 : True := trivial
theorem tw4413872186836077922 : True := trivial
theorem tw10328083799539180469 : True := trivial
theorem tw17651990074869184513 : True := trivial
theorem tw5081289871688199600 : True := trivial
theorem tw15042340642527147771 : True := trivial
theorem tw7470882948229258595 : True := trivial
theorem tw2554968443167659527 : True := trivial
theorem tw15165179015259144812 : True := trivial
theorem tw8508652892824223102 : True := trivial
theorem tw5426878901070710359 : True := trivial
theorem tw6663321210404810033 : True := trivial
theorem tw2945551943321039881 : True := trivial
theorem tw12541369522527383843 : True := trivial
theorem tw17241067557283808205 : True := trivial
theorem tw5678196627413549227 : True := trivial
theorem tw9247035733706398651 : True := trivial
theorem tw4149166042595154201 : True := trivial
theorem tw18364401556224684606 : True := trivial
theorem tw14912293050450848972 : True := trivial
theorem tw13061902823417537703 : True := trivial
theorem tw12342959890406860790 : True := trivial
theorem tw12934546748656049793 : True := trivial
theorem tw13389840996449341136 : True := trivial
theorem tw10497604074387035595 : True := trivial
theorem tw2140598275624677509 : True := trivial
theorem tw2690569829512602420 : True := trivial
theorem tw18427128243980924849 : True := trivial
theorem tw5995092378081814868 : True := trivial
theorem tw150030996616707508 : True := trivial
theorem tw3179743560979905113 : True := trivial
theorem tw11450582249516693692 : True := trivial
theorem tw805120483283676690 : True := trivial
theorem tw11962888060449512276 : True := trivial
theorem tw3507381011340409912 : True := trivial
theorem tw11866104327570591398 : True := trivial
theorem tw13365099343029500675 : True := trivial
theorem tw3577746475673006324 : True := trivial
theorem tw16216076886259863433 : True := trivial
theorem tw1618595994658638279 : True := trivial
theorem tw4910525217674286364 : True := trivial
theorem tw6918841556816368757 : True := trivial
theorem tw14800957404784737654 : True := trivial
theorem tw2686279895530103659 : True := trivial
theorem tw18199372862654955109 : True := trivial
theorem tw508132422580914939 : True := trivial
theorem tw9513352236387737192 : True := trivial
theorem tw17121557039830377599 : True := trivial
theorem tw13366894485551796069 : True := trivial
theorem tw15842359703565869474 : True := trivial
theorem tw4397890191262610860 : True := trivial
theorem tw17173111729920141004 : True := trivial
theorem tw15093060831048278148 : True := trivial
theorem tw14465921558911752091 : True := trivial
theorem tw12836890771538922449 : True := trivial
theorem tw3698833543167952759 : True := trivial
theorem tw10643752879338792815 : True := trivial
theorem tw17514550598821113698 : True := trivial
theorem tw18299819956772086226 : True := trivial
theorem tw14637831838820256649 : True := trivial
theorem tw994019620268438885 : True := trivial
theorem tw17158550296593705198 : True := trivial
theorem tw3845716066992168697 : True := trivial
theorem tw5781508387087181674 : True := trivial
theorem tw4700449306976122157 : True := trivial
theorem tw9427070671331063443 : True := trivial
theorem tw2354690258887774129 : True := trivial
theorem tw10091029759027775497 : True := trivial
theorem tw1818340268335795434 : True := trivial
theorem tw14089008662940567985 : True := trivial
theorem tw3336251027689052417 : True := trivial
theorem tw3611200151709382159 : True := trivial
theorem tw16035915141728445108 : True := trivial
theorem tw4643047621389778223 : True := trivial
theorem tw6305960581765742903 : True := trivial
theorem tw526288947785481278 : True := trivial
theorem tw17017797783125491867 : True := trivial
theorem tw4108685894136155447 : True := trivial
theorem tw3889592243632386996 : True := trivial
theorem tw12900930539108099371 : True := trivial
theorem tw14894471908968020398 : True := trivial
theorem tw7829006248084801302 : True := trivial
theorem tw1897143968036997807 : True := trivial
theorem tw11441453054173186120 : True := trivial
theorem tw18235297211035118342 : True := trivial
theorem tw3125620832512947408 : True := trivial
theorem tw13206299302150971432 : True := trivial
theorem tw15019322250485702602 : True := trivial
theorem tw3059417099649186991 : True := trivial
theorem tw11398768674892229677 : True := trivial
theorem tw13580728241569448848 : True := trivial
theorem tw12650575162011522182 : True := trivial
theorem tw9766126027144479903 : True := trivial
theorem tw17162652468305452733 : True := trivial
theorem tw6522564319502232685 : True := trivial
theorem tw17947923772341818529 : True := trivial
theorem tw111850577177397503 : True := trivial
theorem tw9581138111503722597 : True := trivial
theorem tw16636662763526675681 : True := trivial
theorem tw8316798621887627748 : True := trivial
theorem tw17390399028623361247 : True := trivial
theorem tw16213023012797959515 : True := trivial
theorem tw813652241587881326 : True := trivial
theorem tw15695804883468641920 : True := trivial
theorem tw8529849517613669351 : True := trivial
theorem tw16559935859945637865 : True := trivial
theorem tw9160047716496607913 : True := trivial
theorem tw3114962142790973741 : True := trivial
theorem tw14372609379844816491 : True := trivial
theorem tw6098024315716217517 : True := trivial
theorem tw4072537818810568278 : True := trivial
theorem tw17585063251614535647 : True := trivial
theorem tw748855980562868224 : True := trivial
theorem tw1466151857352390663 : True := trivial
theorem tw13187440880967322535 : True := trivial
theorem tw6802982672016491795 : True := trivial
theorem tw8474164804024987155 : True := trivial
theorem tw17023991457137603328 : True := trivial
theorem tw11497007307041265867 : True := trivial
theorem tw5456786765602419177 : True := trivial
theorem tw9938953824425590610 : True := trivial
theorem tw8254655805132840240 : True := trivial
theorem tw9114676053618721498 : True := trivial
theorem tw3059733151768361075 : True := trivial
theorem tw2223089693161729220 : True := trivial
theorem tw9444618155707105604 : True := trivial
theorem tw9795130566359046297 : True := trivial
theorem tw2390209881807230338 : True := trivial
theorem tw5020812905112149352 : True := trivial
theorem tw2660098778252844321 : True := trivial
theorem tw489749441488319904 : True := trivial
theorem tw7013922341120177997 : True := trivial
theorem tw13863009009743877413 : True := trivial
theorem tw10944782251336901304 : True := trivial
theorem tw8932471303387931160 : True := trivial
theorem tw6812884444542157820 : True := trivial
theorem tw1471378210762069880 : True := trivial
theorem tw18152426997225642558 : True := trivial
theorem tw9481611126995066911 : True := trivial
theorem tw9910154048415900557 : True := trivial
theorem tw2841234128551626778 : True := trivial
theorem tw17685787953625402842 : True := trivial
theorem tw4499355989193641983 : True := trivial
theorem tw12694553380944919716 : True := trivial
theorem tw5657144533207480362 : True := trivial
theorem tw1591508837161119530 : True := trivial
theorem tw15982557944818923100 : True := trivial
theorem tw154925949799335534 : True := trivial
theorem tw7823668940735615241 : True := trivial
theorem tw12566937727761546191 : True := trivial
theorem tw4715083565570102290 : True := trivial
theorem tw16731169291124788162 : True := trivial
theorem tw10163907799101430204 : True := trivial
theorem tw6303285046331878224 : True := trivial
theorem tw2591343166060696491 : True := trivial
theorem tw994185851213606800 : True := trivial
theorem tw10386198186983375552 : True := trivial
theorem tw13851858783451336459 : True := trivial
theorem tw2814434462646303194 : True := trivial
theorem tw8886099358549143970 : True := trivial
theorem tw11367126606689121172 : True := trivial
theorem tw3616645725148314337 : True := trivial
theorem tw17237878535468754815 : True := trivial
theorem tw6440974303155743792 : True := trivial
theorem tw16815647797348664935 : True := trivial
theorem tw5065013992048040674 : True := trivial
theorem tw2089057983591787461 : True := trivial
theorem tw14145748546533334852 : True := trivial
theorem tw5251140275276913213 : True := trivial
theorem tw90501061036405269 : True := trivial
theorem tw673078295368457050 : True := trivial
theorem tw2148579101637138115 : True := trivial
theorem tw14434073422906470597 : True := trivial
theorem tw2137944032977105171 : True := trivial
theorem tw4818543497720672203 : True := trivial
theorem tw15698085716577448931 : True := trivial
theorem tw4504310462182305305 : True := trivial
theorem tw17320253181202960247 : True := trivial
theorem tw17761977252926442252 : True := trivial
theorem tw15074173986809507331 : True := trivial
theorem tw16294763730586522254 : True := trivial
theorem tw453814220566481806 : True := trivial
theorem tw3853033966565128860 : True := trivial
theorem tw5742582857500654873 : True := trivial
theorem tw3435174012046931324 : True := trivial
theorem tw3833527863216474817 : True := trivial
theorem tw14931393924013461375 : True := trivial
theorem tw7817436114074242705 : True := trivial
theorem tw2131512781651947815 : True := trivial
theorem tw13322637173986824206 : True := trivial
theorem tw10578897762634463055 : True := trivial
theorem tw16582200664567024252 : True := trivial
theorem tw15568171557974140917 : True := trivial
theorem tw16213567734723341274 : True := trivial
theorem tw5326263773064456413 : True := trivial
theorem tw13713405998909242796 : True := trivial
theorem tw9717607197576511218 : True := trivial
theorem tw12660093023496984427 : True := trivial
theorem tw15929988624123806525 : True := trivial
theorem tw17446716030926235105 : True := trivial
theorem tw3692103174574720699 : True := trivial
theorem tw6129660050461065790 : True := trivial
theorem tw4976369214614520001 : True := trivial
theorem tw14297281272577080372 : True := trivial
theorem tw4057238542472002997 : True := trivial
theorem tw8665623217274204122 : True := trivial
theorem tw2061046953396928131 : True := trivial
theorem tw16409120163574518880 : True := trivial
theorem tw10951582428751468024 : True := trivial
theorem tw13420257713496766340 : True := trivial
theorem tw12448919055796702544 : True := trivial
theorem tw15475498017633748277 : True := trivial
theorem tw5154856315521319955 : True := trivial
theorem tw7446703282608102069 : True := trivial
theorem tw12121884399419521106 : True := trivial
theorem tw4265457981786071512 : True := trivial
theorem tw18038043968227768965 : True := trivial
theorem tw16429754956860288565 : True := trivial
theorem tw16301450719582346802 : True := trivial
theorem tw6523759979946616378 : True := trivial
theorem tw1265502039755650338 : True := trivial
theorem tw2567462158000053984 : True := trivial
theorem tw17273873437507643722 : True := trivial
theorem tw12547990777949831502 : True := trivial
theorem tw17616874827552211056 : True := trivial
theorem tw3621107240330631223 : True := trivial
theorem tw4244644481930377304 : True := trivial
theorem tw17686092112785615022 : True := trivial
theorem tw4295306506957003230 : True := trivial
theorem tw17280913705848811525 : True := trivial
theorem tw17932898280353175994 : True := trivial
theorem tw4598123476503450085 : True := trivial
theorem tw7603387240553467764 : True := trivial
theorem tw5036644752392002598 : True := trivial
theorem tw16391159263725297329 : True := trivial
theorem tw13279067003022554441 : True := trivial
theorem tw10156389778996604981 : True := trivial
theorem tw9372150316532078467 : True := trivial
theorem tw8006426648331369503 : True := trivial
theorem tw5405489703306795394 : True := trivial
theorem tw16751650458824247060 : True := trivial
theorem tw1222279915323110089 : True := trivial
theorem tw2187604286403977125 : True := trivial
theorem tw15339111621832887320 : True := trivial
theorem tw12956854777592354383 : True := trivial
theorem tw9709722024956417230 : True := trivial
theorem tw911904298273739687 : True := trivial
theorem tw1731794508589236999 : True := trivial
theorem tw8225353490427817590 : True := trivial
theorem tw18234002298044296696 : True := trivial
theorem tw3165621777795870741 : True := trivial
theorem tw17343579825180886171 : True := trivial
theorem tw8398092508930404607 : True := trivial
theorem tw18171529541334168005 : True := trivial
theorem tw12408258536458078605 : True := trivial
theorem tw1061049857661470406 : True := trivial
theorem tw6969765109178587112 : True := trivial
theorem tw2014219535762121433 : True := trivial
theorem tw15128570592053800699 : True := trivial
theorem tw11891753739976283133 : True := trivial
theorem tw3308288409318961675 : True := trivial
theorem tw204120837304739358 : True := trivial
theorem tw13799192332516363213 : True := trivial
theorem tw11085448753123271741 : True := trivial
theorem tw15369233068990531625 : True := trivial
theorem tw14579935901613496518 : True := trivial
theorem tw1015004617539552764 : True := trivial
theorem tw6979188468858525075 : True := trivial
theorem tw13688934470699313877 : True := trivial
theorem tw8353163146879846150 : True := trivial
theorem tw13767822085549162329 : True := trivial
theorem tw15731072738992312771 : True := trivial
end main
set_option maxHeartbeats 8000000 in
set_option Elab.async true in
theorem main : PySem.Challenge.rw_qz0078_01.Holds := by
  w_on
  o_law
  k_head
  case hw => w_witness2
  k_go0
  rename Frag.In _ _ => KX
  rename Top _ _ _ _ _ _ => T
  rename Below _ _ _ _ => B
  rename IntsAre _ _ => hI
  rename Heap.IsList _ _ _ => hL
  rename Fr _ _ _ _ => F
  rename News _ _ _ _ => N
  rename_i w s0 s1 mg mb zG zY zfa zo zpm zdoc zho zhg zX zV zGL zBt zTE zTW zw9 zw8 zM zw7 zw6 zhcd ns zhs zhlay0 zhL zhr zhl2 zw4 zw3 S vs zw0 zra zw1 zqh1 zqh2 hcond zhcond zhD h1 tk1 wcell hcell zX0
  clear zX0 zhD zhcond zqh2 zqh1 zw1 zra zw0 zw3 zw4 zhl2 zhr zhL zhlay0 zhs zhcd zw6 zM zw8 zw9 zTW zTE zBt zGL zV zX
  replace KX : (hd.heap_39 w.params).In s1.heap := KX
  generalize hG : GoodW PySem.Challenge.rw_qz0078_01.row.claim (classAt s0.heap) (ExcName.means s0.heap) [ofPy (PyData.list (List.map PyData.int ns))] s1 = G
  replace B : Below callerA s1.heap [] s1.heap := B
  change Fr _ _ _ (bindL _ [(Str.ofString "script", Value.ref S)] _) at F
  replace hcell : wcell.data = Data.cell none := hcell
  (try k_fold)
  k_steps
  refine .go ?_
  have hsz : vs.toArray.size ≤ sizeLine := by rw [List.size_toArray, hI.length, sizeLine_eq]; omega
  (refine' usePu (c_lawpen (Fr.lst (by k_asm) hL) hI hsz) ?q1 ?q2 ?q3 ?q4 ?q5 ?q6 ?q7 ?q8 ?_; walk_at "QZ use")
  intro v9 h9 tk9 tl9 o9 F9 N9 l9
  refine ex6 o9 ?_
  try clear o9
  intro P I oc0 nI ws ms zz9
  refine and6 zz9 ?_
  try clear zz9
  intro e9r161 e9r162 hp0 hwi hml hIP
  subst e9r161
  subst e9r162
  simp only [List.cons_append, List.nil_append] at N9
  have l9a := l9 _ (.head _) _ (.head _)
  have l9b := l9 _ (.tail _ (.head _)) _ (.head _)
  clear l9
  dsimp only at l9a l9b
  k_sweep
  k_steps
  rename_i wP _ _ dwP dH _ oH _ _ loH hdH lH
  refine .go ?_
  refine ListComp_U (F₀ := by k_asm) (by with_unfolding_all rfl) (by decide) (by rfl) (by decide) (by rfl) ?_
  k_steps
  refine .go ?_
  rename News _ _ _ _ => NN0
  have NN : News _ _ _ ((P, oc0) :: [(I, W.listOf ws.toArray nI), (s1.heap.objs.size + 1, wP), (dH, oH)]) := fun p hp => NN0 p (by
    simp only [List.mem_cons, List.not_mem_nil, or_false] at hp ⊢
    rcases hp with h | h | h | h <;> simp [h])
  clear NN0
  have hne0 : ∀ p ∈ [(I, W.listOf ws.toArray nI), (s1.heap.objs.size + 1, wP), (dH, oH)], p.1 ≠ P := List.forall_mem_cons.mpr ⟨hIP, List.forall_mem_cons.mpr ⟨l9a, List.forall_mem_singleton.mpr (Nat.ne_of_gt lH.1)⟩⟩
  refine srcM (fun i oc => Pen I (i : Int) oc) (fun _ y => ∃ r t, y = .int r t ∧ 0 ≤ r ∧ r < 9) rfl (by k_asm) NN (by assumption) (by decide +kernel) (n := 4) rfl (Nat.le_of_ble_eq_true rfl) hne0 hp0 ?el ?fin
  case el =>
    intro g1 i v oc' hi hinv C oC m₂ h tk nw E' hC hx F' N' hne hCP
    simp only [List.cons_append, List.nil_append] at N' hne
    k_steps
    refine .go ?_
    (refine' usePuW (c_drawP (Cells.news N' (a := I) (by k_mem) hwi hml) hinv (by omega) (by decide) (by decide) hIP) (UpdF.tail hCP (UpdF.head hne)) ?q1 ?q2 ?q3 N' ?q5 ?q6 ?q7 ?q8 ?_; walk_at "QZ useN")
    intro r1 t1 h9 tk9 oc'' hp1 hl1 hu1 F9 N9
    exact .intro F9 N9 ⟨hp1.le (by omega), r1, _, rfl, hl1, hu1⟩
  case fin =>
  intro g1 ys oc1 hl hv hi D hD tkD F1 N1 off
  refine ex4 (four hl hv) ?_
  intro y0 y1 y2 y3 zz9
  refine and5 zz9 ?_
  try clear zz9
  intro e9r163 n9r164 n9r165 n9r166 n9r167
  subst e9r163
  obtain ⟨x1, t1, rfl, b1, c1⟩ := n9r164
  obtain ⟨x2, t2, rfl, b2, c2⟩ := n9r165
  obtain ⟨x3, t3, rfl, b3, c3⟩ := n9r166
  obtain ⟨x4, t4, rfl, b4, c4⟩ := n9r167
  have oD1 := off.1
  have oD2 := off.2.1
  have oD3 := off.2.2.1
  have oD4 := off.2.2.2.1
  clear hl hv off NN hp0
  k_steps
  rename_i lc _ lL _ oH2 hdH2 _ _ NN0
  have NN := pick3 NN0
  clear NN0
  refine .go ?_
  (refine' usePuW (c_drawP (Cells.news NN (a := I) (by k_mem) hwi hml) hi (by omega) (by decide) (by decide) hIP) (UpdF.head (ne5 (Nat.ne_of_gt lL.2.1) (Ne.symm oD1) hIP l9a (Nat.ne_of_gt lH.1))) ?q1 ?q2 ?q3 NN ?q5 ?q6 ?q7 ?q8 ?_; walk_at "QZ useN")
  intro rk trk h9 tk9 oc2 hprk hlrk hurk F9 N9
  clear NN
  k_sweep
  k_steps
  obtain ⟨k, rfl⟩ : ∃ k : Nat, rk = (k : Int) := ⟨rk.toNat, by omega⟩
  refine .go ?_
  refine cutH (P := P) (I := I) (cell := s1.heap.objs.size + 1) (lI := W.listOf ws.toArray nI) (oC := wP) (dH := dH) (x1 := x1) (x2 := x2) (x3 := x3) (x4 := x4) (k := k) (by k_asm) ?hif ?hrest
  case hif =>
    refine wpAny_If ?_
    k_steps
    rotate_left
    · obtain rfl : k = 0 := by omega
      have hd3' : oH2.IsDictOf (strKind PySem.Challenge.rw_qz0078_01.row.prog w) (hd3 D (tkD + 1) lc) := by with_unfolding_all exact hdH2
      rename News _ _ _ _ => NN
      exact JoinH.zero (by k_asm) NN (hprk.le (by omega)) hd3' loH (Nat.ne_of_gt lL.2.1) (Ne.symm oD1) (Nat.ne_of_gt lH.1)
    have hk12 : k = 1 ∨ k = 2 := by omega
    refine .go ?_
    with_reducible refine wpAny_Assign_Subscript ?_ ?_
    rotate_left
    · with_unfolding_all rfl
    refine ListComp_U (F₀ := by k_asm) (by with_unfolding_all rfl) (by decide) (by rfl) (by decide) (by rfl) ?_
    k_steps
    refine .go ?_
    rename News _ _ _ _ => NN
    refine srcM (fun i oc => Pen I (5 + (i : Int)) oc) (fun _ y => ∃ r t, y = .int r t ∧ 0 ≤ r ∧ r < 9) rfl (by k_asm) NN (by assumption) (by rcases hk12 with rfl | rfl <;> decide +kernel) (n := 8 * k) (by rcases hk12 with rfl | rfl <;> rfl) (by rw [sizeLine_eq]; omega) (ne5 (Nat.ne_of_gt lL.2.1) (Ne.symm oD1) hIP l9a (Nat.ne_of_gt lH.1)) (hprk.le (by omega)) ?el ?fin
    case el =>
      intro g1 i v oc' hi hinv C oC m₂ h tk nw E' hC hx F' N' hne hCP
      simp only [List.cons_append, List.nil_append] at N' hne
      k_steps
      refine .go ?_
      (refine' usePuW (c_drawP (Cells.news N' (a := I) (by k_mem) hwi hml) hinv (by omega) (by decide) (by decide) hIP) (UpdF.tail hCP (UpdF.head hne)) ?q1 ?q2 ?q3 N' ?q5 ?q6 ?q7 ?q8 ?_; walk_at "QZ useN")
      intro r1 t1 h9 tk9 oc'' hp1 hl1 hu1 F9 N9
      exact .intro F9 N9 ⟨hp1.le (by omega), r1, _, rfl, hl1, hu1⟩
    case fin =>
    intro g2 ys oc3 hl hv hi' D2 hD2 tkD2 F2 N2 off2
    refine ex1 (nums_ex hv) ?_
    intro ns' zz9
    refine and2 zz9 ?_
    try clear zz9
    intro hns hny
    have oE1 := off2.1
    have oE2 := off2.2.2.2.2.2.1
    clear hv off2
    k_steps
    rename_i _ oH3 _ NN hdQ
    have hd4' : oH3.IsDictOf (strKind PySem.Challenge.rw_qz0078_01.row.prog w) (hd4 D (tkD + 1) lc D2) := by with_unfolding_all exact hdQ
    exact JoinH.quads (by k_asm) NN (hi'.le (by omega)) hd4' loH hk12 hl hns hny (Ne.symm oE1) (Nat.ne_of_gt lL.2.1) (Ne.symm oD1) (Nat.ne_of_gt lH.1)
  case hrest =>
  clear loH hdH lH hne0 oD1 oD2 oD3 oD4 hdH2 lL hi
  intro h2 tk2 oc3 nw nq lc t7 F2 N2 hp3 hH hnq hlc hnP
  k_steps
  rename_i d1 _ _ _ _ _ _ _ lA d2 _ _ _ _ _ _ _ _ _ lB
  refine .go ?_
  (refine' usePu (c_Lookup _ _) ?q1 ?q2 ?q3 ?q4 ?q5 ?q6 ?q7 ?q8 ?_; walk_at "QZ use")
  intro sv h9 tk9 tl9 hS F9 N9 l9
  refine step5C N9 l9 (Nat.ne_of_gt lB.2.1) (Nat.ne_of_gt lA.1) hnP ?_
  intro nw1 NN sA sB hn1
  replace hH := hH.mono fun a o q => sA _ q
  replace hlc := sA _ hlc
  replace hS : ShelfG w.params (In nw1) sv := hS.mono fun a o q => sB _ q
  clear sA sB l9 N9 lA lB hnP
  k_steps
  refine .go ?_
  (refine' usePuW (c_drawP (Cells.news NN (a := I) (by k_mem) hwi hml) hp3 (by omega) (by decide) (by decide) hIP) (UpdF.head (List.forall_mem_cons.mpr ⟨hIP, List.forall_mem_cons.mpr ⟨l9a, hn1⟩⟩)) ?q1 ?q2 ?q3 NN ?q5 ?q6 ?q7 ?q8 ?_; walk_at "QZ useN")
  intro rs trs h9 tk9 oc4 hprs hlrs hurs F9 N9
  clear NN
  k_sweep
  k_steps
  refine .go ?_
  rename News _ _ _ _ => NN0
  have NN : News _ _ _ ((P, _) :: (I, W.listOf ws.toArray nI) :: (s1.heap.objs.size + 1, wP) :: nw1) := fun p hp => NN0 p (.tail _ hp)
  clear NN0
  refine cutM (ps := w.params) (P := P) (I := I) (bd := 28) (nw := nw1) (b := (I, W.listOf ws.toArray nI)) (c := (s1.heap.objs.size + 1, wP)) (st := rs = 0) (by k_asm) ?hif ?hrest
  case hif =>
    refine IfExp_ ?_
    k_steps
    · refine .go ?_
      (refine' usePuM (c_straight (Cells.news NN (a := I) (by k_mem) hwi hml) hprs (by omega) hIP) (UpdF.head (List.forall_mem_cons.mpr ⟨hIP, List.forall_mem_cons.mpr ⟨l9a, hn1⟩⟩)) ?q1 ?q2 ?q3 NN ?q5 ?q6 ?q7 ?q8 ?_; walk_at "QZ useN")
      intro v9 h9 tk9 oc' tl9 o9 F9 N9 l9
      refine and2 o9 ?_
      try clear o9
      intro hp' zz9
      refine ex6 zz9 ?_
      try clear zz9
      intro na nb nc nd ne nf zz9
      refine and3 zz9 ?_
      try clear zz9
      intro hM hst hb
      refine step3C N9 l9 hn1 ?_
      intro nw2 N2 sA sB hn2
      exact ⟨_, _, oc', nw2, na, nb, nc, nd, ne, nf, rfl, F9, N2, sA, hn2, hp'.le (by omega), hM.mono fun a o q => sB _ q, fun _ => hst, hb⟩
    · refine .go ?_
      (refine' usePuM (c_any (Cells.news NN (a := I) (by k_mem) hwi hml) hprs (by omega) hIP) (UpdF.head (List.forall_mem_cons.mpr ⟨hIP, List.forall_mem_cons.mpr ⟨l9a, hn1⟩⟩)) ?q1 ?q2 ?q3 NN ?q5 ?q6 ?q7 ?q8 ?_; walk_at "QZ useN")
      intro v9 h9 tk9 oc' tl9 o9 F9 N9 l9
      refine and2 o9 ?_
      try clear o9
      intro hp' zz9
      refine ex6 zz9 ?_
      try clear zz9
      intro na nb nc nd ne nf zz9
      refine and2 zz9 ?_
      try clear zz9
      intro hM hb
      refine step3C N9 l9 hn1 ?_
      intro nw2 N2 sA sB hn2
      exact ⟨_, _, oc', nw2, na, nb, nc, nd, ne, nf, rfl, F9, N2, sA, hn2, hp'.le (by omega), hM.mono fun a o q => sB _ q, fun q => absurd q (by simpa using (by assumption)), hb⟩
  case hrest =>
  intro m h9 tk9 oc5 nw2 m1 m2 m3 m4 m5 m6 F9 N9 sA hn2 hpm hm hms hmb
  replace hH := hH.mono fun a o q => sA _ q
  replace hlc := sA _ hlc
  replace hS : ShelfG w.params (In nw2) sv := hS.mono fun a o q => sA _ q
  clear sA NN hn1
  k_steps
  refine .go ?_
  rename News _ _ _ _ => NN0
  have NN : News _ _ _ ((P, _) :: (I, W.listOf ws.toArray nI) :: (s1.heap.objs.size + 1, wP) :: nw2) := NN0
  clear NN0
  refine cutM (ps := w.params) (P := P) (I := I) (bd := 34) (nw := nw2) (b := (I, W.listOf ws.toArray nI)) (c := (s1.heap.objs.size + 1, wP)) (st := rs = 0) (by k_asm) ?hif ?hrest
  case hif =>
    refine IfExp_ ?_
    k_steps
    · refine .go ?_
      (refine' usePuM (c_straight (Cells.news NN (a := I) (by k_mem) hwi hml) hpm (by omega) hIP) (UpdF.head (List.forall_mem_cons.mpr ⟨hIP, List.forall_mem_cons.mpr ⟨l9a, hn2⟩⟩)) ?q1 ?q2 ?q3 NN ?q5 ?q6 ?q7 ?q8 ?_; walk_at "QZ useN")
      intro v9 h9 tk9 oc' tl9 o9 F9 N9 l9
      refine and2 o9 ?_
      try clear o9
      intro hp' zz9
      refine ex6 zz9 ?_
      try clear zz9
      intro na nb nc nd ne nf zz9
      refine and3 zz9 ?_
      try clear zz9
      intro hM hst hb
      refine step3C N9 l9 hn2 ?_
      intro nw2 N2 sA sB hn2
      exact ⟨_, _, oc', nw2, na, nb, nc, nd, ne, nf, rfl, F9, N2, sA, hn2, hp'.le (by omega), hM.mono fun a o q => sB _ q, fun _ => hst, hb⟩
    · refine .go ?_
      (refine' usePuM (c_any (Cells.news NN (a := I) (by k_mem) hwi hml) hpm (by omega) hIP) (UpdF.head (List.forall_mem_cons.mpr ⟨hIP, List.forall_mem_cons.mpr ⟨l9a, hn2⟩⟩)) ?q1 ?q2 ?q3 NN ?q5 ?q6 ?q7 ?q8 ?_; walk_at "QZ useN")
      intro v9 h9 tk9 oc' tl9 o9 F9 N9 l9
      refine and2 o9 ?_
      try clear o9
      intro hp' zz9
      refine ex6 zz9 ?_
      try clear zz9
      intro na nb nc nd ne nf zz9
      refine and2 zz9 ?_
      try clear zz9
      intro hM hb
      refine step3C N9 l9 hn2 ?_
      intro nw2 N2 sA sB hn2
      exact ⟨_, _, oc', nw2, na, nb, nc, nd, ne, nf, rfl, F9, N2, sA, hn2, hp'.le (by omega), hM.mono fun a o q => sB _ q, fun q => absurd q (by simpa using (by assumption)), hb⟩
  case hrest =>
  intro u h9 tk9 oc6 nw3 u1 u2 u3 u4 u5 u6 F9 N9 sA hn3 hpu hu hus hub
  replace hH := hH.mono fun a o q => sA _ q
  replace hlc := sA _ hlc
  replace hS : ShelfG w.params (In nw3) sv := hS.mono fun a o q => sA _ q
  replace hm := hm.mono fun a o q => sA _ q
  clear sA NN hn2
  k_steps
  have hku := sm_bnd4 hub
  have hkm := sm_bnd4 hmb
  have k1 := hku.1
  have k2 := hku.2.1
  have k3 := hku.2.2.1
  have k4 := hku.2.2.2.1
  have k5 := hkm.2.2.2.2.1
  have k6 := hkm.2.2.2.2.2
  clear hku hkm
  have hk2 : k ≤ 2 := by omega
  have q1 := sm9 b1 c1
  have q2 := sm9 b2 c2
  have q3 := sm9 b3 c3
  have q4 := sm9 b4 c4
  have q5 : ∀ i, Sm (nq i) := fun i => sm9 (hnq i).1 (hnq i).2
  refine .go ?_
  rename News _ _ _ _ => NN
  have hIn := in3 NN
  (refine' usePuL (c_movedH (hS.mono hIn) (hH.mono hIn) q1 q2 q3 q4 q5 (hm.mono hIn)) ?q1 ?q2 ?q3 NN ?q5 ?q6 ?q7 ?q8 hn3 ?_; walk_at "QZ useN")
  intro vA h9 tk9 tl9 nw11 o9 F9 N2 sA sB hn11
  replace hS : ShelfG w.params (In nw11) sv := hS.mono fun a o q => sA _ q
  replace hH := hH.mono fun a o q => sA _ q
  replace hlc := sA _ hlc
  replace hm := hm.mono fun a o q => sA _ q
  replace hu := hu.mono fun a o q => sA _ q
  have hA := o9.mono fun a o q => sB _ q
  refine hA.genC ?_
  try clear hA
  intro hA1 hA2 hA3 hA4 hAf hA ehA
  clear sA sB o9 hIn NN hn3
  k_steps
  refine and5 (sm_moved ehA (bnd49 hmb) (min9 ⟨b1, c1⟩ ⟨b3, c3⟩) (min9 ⟨b2, c2⟩ ⟨b4, c4⟩) (max9 ⟨b1, c1⟩ ⟨b3, c3⟩) (max9 ⟨b2, c2⟩ ⟨b4, c4⟩) hnq) ?_
  intro r1 r2 r3 r4 r5
  refine .go ?_
  rename News _ _ _ _ => NN
  have hIn := in3 NN
  (refine' usePuL (c_movedH (hS.mono hIn) (hA.mono hIn) r1 r2 r3 r4 r5 (hu.mono hIn)) ?q1 ?q2 ?q3 NN ?q5 ?q6 ?q7 ?q8 hn11 ?_; walk_at "QZ useN")
  intro vB h9 tk9 tl9 nw12 o9 F9 N2 sA sB hn12
  replace hS : ShelfG w.params (In nw12) sv := hS.mono fun a o q => sA _ q
  replace hH := hH.mono fun a o q => sA _ q
  replace hlc := sA _ hlc
  replace hm := hm.mono fun a o q => sA _ q
  replace hu := hu.mono fun a o q => sA _ q
  replace hA := hA.mono fun a o q => sA _ q
  have hB := o9.mono fun a o q => sB _ q
  refine hB.genC ?_
  try clear hB
  intro hB1 hB2 hB3 hB4 hBf hB ehB
  clear sA sB o9 hIn NN hn11
  k_steps
  refine .go ?_
  rename News _ _ _ _ => NN
  refine method_mat (by k_asm) (by k_asm) (hm.mono (in3 NN)) ?_
  k_steps
  refine .go ?_
  rename News _ _ _ _ => NN
  have hIn := in3 NN
  (refine' usePuL (c_Mtimes (hm.mono hIn) (hu.mono hIn) k1 k2 k3 k4 k5 k6) ?q1 ?q2 ?q3 NN ?q5 ?q6 ?q7 ?q8 hn12 ?_; walk_at "QZ useN")
  intro vP h9 tk9 tl9 nw13 o9 F9 N2 sA sB hn13
  replace hS : ShelfG w.params (In nw13) sv := hS.mono fun a o q => sA _ q
  replace hH := hH.mono fun a o q => sA _ q
  replace hlc := sA _ hlc
  replace hm := hm.mono fun a o q => sA _ q
  replace hu := hu.mono fun a o q => sA _ q
  replace hA := hA.mono fun a o q => sA _ q
  replace hB := hB.mono fun a o q => sA _ q
  have hP := o9.mono fun a o q => sB _ q
  refine hP.genC ?_
  try clear hP
  intro p1 p2 p3 p4 p5 p6 hP ehP
  clear sA sB o9 hIn NN hn12
  k_steps
  refine .go ?_
  rename News _ _ _ _ => NN
  have hIn := in3 NN
  (refine' usePuL (c_movedH (hS.mono hIn) (hH.mono hIn) q1 q2 q3 q4 q5 (hP.mono hIn)) ?q1 ?q2 ?q3 NN ?q5 ?q6 ?q7 ?q8 hn13 ?_; walk_at "QZ useN")
  intro vC h9 tk9 tl9 nw14 o9 F9 N2 sA sB hn14
  replace hS : ShelfG w.params (In nw14) sv := hS.mono fun a o q => sA _ q
  replace hH := hH.mono fun a o q => sA _ q
  replace hlc := sA _ hlc
  replace hm := hm.mono fun a o q => sA _ q
  replace hu := hu.mono fun a o q => sA _ q
  replace hA := hA.mono fun a o q => sA _ q
  replace hB := hB.mono fun a o q => sA _ q
  replace hP := hP.mono fun a o q => sA _ q
  have hC := o9.mono fun a o q => sB _ q
  refine hC.genC ?_
  try clear hC
  intro hC1 hC2 hC3 hC4 hCf hC ehC
  clear sA sB o9 hIn NN hn13
  k_steps
  refine .go ?_
  refine wpAny_If ?_
  k_steps
  refine .go ?_
  rename News _ _ _ _ => NN
  have hIn := in3 NN
  (refine' usePuL (c_numbers (hS.mono hIn) (hB.mono hIn) hk2) ?q1 ?q2 ?q3 NN ?q5 ?q6 ?q7 ?q8 hn14 ?_; walk_at "QZ useN")
  intro vD h9 tk9 tl9 nw15 o9 F9 N2 sA sB hn15
  replace hS : ShelfG w.params (In nw15) sv := hS.mono fun a o q => sA _ q
  replace hH := hH.mono fun a o q => sA _ q
  replace hlc := sA _ hlc
  replace hm := hm.mono fun a o q => sA _ q
  replace hu := hu.mono fun a o q => sA _ q
  replace hA := hA.mono fun a o q => sA _ q
  replace hB := hB.mono fun a o q => sA _ q
  replace hP := hP.mono fun a o q => sA _ q
  replace hC := hC.mono fun a o q => sA _ q
  refine ex4 (nDat_inv (o9.mono sB)) ?_
  intro nBa nBs nBq nBn zz9
  refine and4 zz9 ?_
  try clear zz9
  intro e9r168 nBm nB1 nB2
  subst e9r168
  clear sA sB o9 hIn NN hn14
  k_steps
  refine .go ?_
  rename News _ _ _ _ => NN
  have hT9 : IsTup _ _ _ := ⟨_, in3 NN _ _ nBm, rfl, _, rfl⟩
  refine tail_any hT9.typeIs slot_tuple_getitem.lookup (getItem_tuple hT9 (by decide) (by decide) (j := 1) rfl rfl ?_) (by with_unfolding_all rfl)
  clear hT9
  k_steps
  refine .go ?_
  rename News _ _ _ _ => NN
  have hIn := in3 NN
  (refine' usePuL (c_numbers (hS.mono hIn) (hC.mono hIn) hk2) ?q1 ?q2 ?q3 NN ?q5 ?q6 ?q7 ?q8 hn15 ?_; walk_at "QZ useN")
  intro vE h9 tk9 tl9 nw16 o9 F9 N2 sA sB hn16
  replace hS : ShelfG w.params (In nw16) sv := hS.mono fun a o q => sA _ q
  replace hH := hH.mono fun a o q => sA _ q
  replace hlc := sA _ hlc
  replace hm := hm.mono fun a o q => sA _ q
  replace hu := hu.mono fun a o q => sA _ q
  replace hA := hA.mono fun a o q => sA _ q
  replace hB := hB.mono fun a o q => sA _ q
  replace hP := hP.mono fun a o q => sA _ q
  replace hC := hC.mono fun a o q => sA _ q
  replace nBm := sA _ nBm
  replace nB1 := nB1.mono sA
  replace nB2 := nB2.mono sA
  refine ex4 (nDat_inv (o9.mono sB)) ?_
  intro nCa nCs nCq nCn zz9
  refine and4 zz9 ?_
  try clear zz9
  intro e9r169 nCm nC1 nC2
  subst e9r169
  clear sA sB o9 hIn NN hn15
  k_steps
  refine .go ?_
  rename News _ _ _ _ => NN
  have hT9 : IsTup _ _ _ := ⟨_, in3 NN _ _ nCm, rfl, _, rfl⟩
  refine tail_any hT9.typeIs slot_tuple_getitem.lookup (getItem_tuple hT9 (by decide) (by decide) (j := 1) rfl rfl ?_) (by with_unfolding_all rfl)
  clear hT9
  k_steps
  refine .go ?_
  rename News _ _ _ _ => NN
  refine ne_dat NN nB2 (fun p hp => .tail _ (.tail _ (.tail _ hp))) nC2 (fun p hp => .tail _ (.tail _ (.tail _ hp))) (kqd_qs _ _) (congrArg (qsDat k) (mvq_mvq ehA.2.2.2.2 ehB.2.2.2.2 ehC.2.2.2.2 ehP)) (by ke_room) ?_
  k_steps
  clear nBm nB1 nB2 nCm nC1 nC2
  refine .go ?_
  rename News _ _ _ _ => NN
  refine cutN (by k_asm) NN ?hif ?hrest
  case hif =>
    have hsub0 : ∀ p ∈ nw16, p ∈ nw16 := fun _ h => h
    refine wpAny_If ?_
    k_steps
    rotate_left
    · exact JoinN.intro (by k_asm) NN hsub0 hn16
    rename rs = 0 => hrs
    refine .go ?_
    rename News _ _ _ _ => NN
    have hIn := in3 NN
    (refine' usePuL (c_numbers (hS.mono hIn) (hB.mono hIn) hk2) ?q1 ?q2 ?q3 NN ?q5 ?q6 ?q7 ?q8 hn16 ?_; walk_at "QZ useN")
    intro vD h9 tk9 tl9 nw17 o9 F9 N2 sA sB hn17
    replace hS : ShelfG w.params (In nw17) sv := hS.mono fun a o q => sA _ q
    replace hH := hH.mono fun a o q => sA _ q
    replace hlc := sA _ hlc
    replace hm := hm.mono fun a o q => sA _ q
    replace hu := hu.mono fun a o q => sA _ q
    replace hA := hA.mono fun a o q => sA _ q
    replace hB := hB.mono fun a o q => sA _ q
    replace hP := hP.mono fun a o q => sA _ q
    replace hC := hC.mono fun a o q => sA _ q
    refine ex4 (nDat_inv (o9.mono sB)) ?_
    intro nBa nBs nBq nBn zz9
    refine and4 zz9 ?_
    try clear zz9
    intro e9r170 nBm nB1 nB2
    subst e9r170
    replace hsub0 := fun p hp => sA p (hsub0 p hp)
    clear sA sB o9 hIn NN hn16
    k_steps
    refine .go ?_
    rename News _ _ _ _ => NN
    have hT9 : IsTup _ _ _ := ⟨_, in3 NN _ _ nBm, rfl, _, rfl⟩
    refine tail_any hT9.typeIs slot_tuple_getitem.lookup (getItem_tuple hT9 (by decide) (by decide) (j := 0) rfl rfl ?_) (by with_unfolding_all rfl)
    clear hT9
    k_steps
    refine .go ?_
    rename News _ _ _ _ => NN
    have hIn := in3 NN
    (refine' usePuL (c_numbers (hS.mono hIn) (hC.mono hIn) hk2) ?q1 ?q2 ?q3 NN ?q5 ?q6 ?q7 ?q8 hn17 ?_; walk_at "QZ useN")
    intro vE h9 tk9 tl9 nw18 o9 F9 N2 sA sB hn18
    replace hS : ShelfG w.params (In nw18) sv := hS.mono fun a o q => sA _ q
    replace hH := hH.mono fun a o q => sA _ q
    replace hlc := sA _ hlc
    replace hm := hm.mono fun a o q => sA _ q
    replace hu := hu.mono fun a o q => sA _ q
    replace hA := hA.mono fun a o q => sA _ q
    replace hB := hB.mono fun a o q => sA _ q
    replace hP := hP.mono fun a o q => sA _ q
    replace hC := hC.mono fun a o q => sA _ q
    replace nBm := sA _ nBm
    replace nB1 := nB1.mono sA
    replace nB2 := nB2.mono sA
    refine ex4 (nDat_inv (o9.mono sB)) ?_
    intro nCa nCs nCq nCn zz9
    refine and4 zz9 ?_
    try clear zz9
    intro e9r171 nCm nC1 nC2
    subst e9r171
    replace hsub0 := fun p hp => sA p (hsub0 p hp)
    clear sA sB o9 hIn NN hn17
    k_steps
    refine .go ?_
    rename News _ _ _ _ => NN
    have hT9 : IsTup _ _ _ := ⟨_, in3 NN _ _ nCm, rfl, _, rfl⟩
    refine tail_any hT9.typeIs slot_tuple_getitem.lookup (getItem_tuple hT9 (by decide) (by decide) (j := 0) rfl rfl ?_) (by with_unfolding_all rfl)
    clear hT9
    k_steps
    refine .go ?_
    rename News _ _ _ _ => NN
    refine ne_dat NN nB1 (fun p hp => .tail _ (.tail _ (.tail _ hp))) nC1 (fun p hp => .tail _ (.tail _ (.tail _ hp))) (kqd_s _ _ _ _) (sDat_eq (same_box ehA ehB ehC ehP (hms hrs) (hus hrs))) (by ke_room) ?_
    k_steps
    rename News _ _ _ _ => NN
    exact JoinN.intro (by k_asm) NN hsub0 hn18
  case hrest =>
  intro h9 tk9 nwS F9 N9 sA hnS
  clear NN
  replace hS : ShelfG w.params (In nwS) sv := hS.mono fun a o q => sA _ q
  replace hH := hH.mono fun a o q => sA _ q
  replace hlc := sA _ hlc
  replace hm := hm.mono fun a o q => sA _ q
  replace hu := hu.mono fun a o q => sA _ q
  replace hA := hA.mono fun a o q => sA _ q
  replace hB := hB.mono fun a o q => sA _ q
  replace hP := hP.mono fun a o q => sA _ q
  replace hC := hC.mono fun a o q => sA _ q
  clear sA hn16
  k_steps
  refine .go ?_
  refine wpAny_If ?_
  k_steps
  refine .go ?_
  rename News _ _ _ _ => NN
  have hIn := in3 NN
  (refine' usePuL (c_rectH (G := In nwS) hIn (hS.mono hIn) hC) ?q1 ?q2 ?q3 NN ?q5 ?q6 ?q7 ?q8 hnS ?_; walk_at "QZ useN")
  intro vG h9 tk9 tl9 nw19 o9 F9 N2 sA sB hn19
  replace hS : ShelfG w.params (In nw19) sv := hS.mono fun a o q => sA _ q
  replace hH := hH.mono fun a o q => sA _ q
  replace hlc := sA _ hlc
  replace hm := hm.mono fun a o q => sA _ q
  replace hu := hu.mono fun a o q => sA _ q
  replace hA := hA.mono fun a o q => sA _ q
  replace hB := hB.mono fun a o q => sA _ q
  replace hP := hP.mono fun a o q => sA _ q
  replace hC := hC.mono fun a o q => sA _ q
  refine BoxG.el (BoxG.mono o9 (fun a o q => q.elim (fun q => sA _ q) (fun q => sB _ q))) ?_
  intro bCt bC1 bC2 bC3 bC4 e9r172 bCm bCd1 bCd2 bCd3 bCd4
  subst e9r172
  clear sA sB o9 hIn NN hnS
  k_steps
  refine .go ?_
  rename News _ _ _ _ => NN
  have hIn := in3 NN
  (refine' usePuL (c_rectH (G := In nw19) hIn (hS.mono hIn) hB) ?q1 ?q2 ?q3 NN ?q5 ?q6 ?q7 ?q8 hn19 ?_; walk_at "QZ useN")
  intro vH h9 tk9 tl9 nw20 o9 F9 N2 sA sB hn20
  replace hS : ShelfG w.params (In nw20) sv := hS.mono fun a o q => sA _ q
  replace hH := hH.mono fun a o q => sA _ q
  replace hlc := sA _ hlc
  replace hm := hm.mono fun a o q => sA _ q
  replace hu := hu.mono fun a o q => sA _ q
  replace hA := hA.mono fun a o q => sA _ q
  replace hB := hB.mono fun a o q => sA _ q
  replace hP := hP.mono fun a o q => sA _ q
  replace hC := hC.mono fun a o q => sA _ q
  replace bCm := sA _ bCm
  replace bCd1 := bCd1.mono fun a o q => sA _ q
  replace bCd2 := bCd2.mono fun a o q => sA _ q
  replace bCd3 := bCd3.mono fun a o q => sA _ q
  replace bCd4 := bCd4.mono fun a o q => sA _ q
  refine BoxG.el (BoxG.mono o9 (fun a o q => q.elim (fun q => sA _ q) (fun q => sB _ q))) ?_
  intro bBt bB1 bB2 bB3 bB4 e9r173 bBm bBd1 bBd2 bBd3 bBd4
  subst e9r173
  clear sA sB o9 hIn NN hn19
  k_steps
  have hW := within_moved ehA ehB ehC ehP
  refine .go ?_
  rename News _ _ _ _ => NN
  have hIn := in3 NN
  (refine' usePuL (c_within ⟨_, hIn _ _ bCm, rfl, _, rfl⟩ ⟨_, hIn _ _ bBm, rfl, _, rfl⟩ (bCd1.mono hIn) (bCd2.mono hIn) (bCd3.mono hIn) (bCd4.mono hIn) (bBd1.mono hIn) (bBd2.mono hIn) (bBd3.mono hIn) (bBd4.mono hIn) hW.1 hW.2.1 hW.2.2.1 hW.2.2.2) ?q1 ?q2 ?q3 NN ?q5 ?q6 ?q7 ?q8 hn20 ?_; walk_at "QZ useN")
  intro vW h9 tk9 tl9 nw21 o9 F9 N2 sA sB hn21
  replace hS : ShelfG w.params (In nw21) sv := hS.mono fun a o q => sA _ q
  replace hH := hH.mono fun a o q => sA _ q
  replace hlc := sA _ hlc
  replace hm := hm.mono fun a o q => sA _ q
  replace hu := hu.mono fun a o q => sA _ q
  replace hA := hA.mono fun a o q => sA _ q
  replace hB := hB.mono fun a o q => sA _ q
  replace hP := hP.mono fun a o q => sA _ q
  replace hC := hC.mono fun a o q => sA _ q
  replace bCm := sA _ bCm
  replace bCd1 := bCd1.mono fun a o q => sA _ q
  replace bCd2 := bCd2.mono fun a o q => sA _ q
  replace bCd3 := bCd3.mono fun a o q => sA _ q
  replace bCd4 := bCd4.mono fun a o q => sA _ q
  replace bBm := sA _ bBm
  replace bBd1 := bBd1.mono fun a o q => sA _ q
  replace bBd2 := bBd2.mono fun a o q => sA _ q
  replace bBd3 := bBd3.mono fun a o q => sA _ q
  replace bBd4 := bBd4.mono fun a o q => sA _ q
  have o8 : vW = .bool true := o9
  subst o8
  clear sA sB o9 hIn NN hn20
  k_steps
  clear hW
  clear bCm bCd1 bCd2 bCd3 bCd4 bBm bBd1 bBd2 bBd3 bBd4
  refine .go ?_
  rename News _ _ _ _ => NN
  have hIn := in3 NN
  (refine' usePuL (c_numbers (hS.mono hIn) (hH.mono hIn) hk2) ?q1 ?q2 ?q3 NN ?q5 ?q6 ?q7 ?q8 hn21 ?_; walk_at "QZ useN")
  intro vF h9 tk9 tl9 nw22 o9 F9 N2 sA sB hn22
  replace hS : ShelfG w.params (In nw22) sv := hS.mono fun a o q => sA _ q
  replace hH := hH.mono fun a o q => sA _ q
  replace hlc := sA _ hlc
  replace hm := hm.mono fun a o q => sA _ q
  replace hu := hu.mono fun a o q => sA _ q
  replace hA := hA.mono fun a o q => sA _ q
  replace hB := hB.mono fun a o q => sA _ q
  replace hP := hP.mono fun a o q => sA _ q
  replace hC := hC.mono fun a o q => sA _ q
  have nP := o9.mono sB
  clear sA sB o9 hIn NN hn21
  k_steps
  clear hm hu hA hP hC
  clear ehA ehB ehC ehP
  refine .go ?_
  refine wpAny_If ?_
  k_steps
  refine .go ?_
  refine callWith_K0 (K := hd.heap_39 w.params) (KX.keeps (Fr.keep (by k_asm))) (by k_is) ?_
  k_steps
  refine .go ?_
  rename News _ _ _ _ => NN
  have hIn := in3 NN
  (refine' usePuL (c_identity) ?q1 ?q2 ?q3 NN ?q5 ?q6 ?q7 ?q8 hn22 ?_; walk_at "QZ useN")
  intro vI h9 tk9 tl9 nw23 o9 F9 N2 sA sB hn23
  replace hS : ShelfG w.params (In nw23) sv := hS.mono fun a o q => sA _ q
  replace hH := hH.mono fun a o q => sA _ q
  replace hlc := sA _ hlc
  replace hB := hB.mono fun a o q => sA _ q
  replace nP := nP.mono sA
  have hI2 := o9.mono fun a o q => sB _ q
  clear sA sB o9 hIn NN hn22
  k_steps
  refine .go ?_
  rename News _ _ _ _ => NN
  have hIn := in3 NN
  (refine' usePuL (c_movedH (hS.mono hIn) (hH.mono hIn) q1 q2 q3 q4 q5 (hI2.mono hIn)) ?q1 ?q2 ?q3 NN ?q5 ?q6 ?q7 ?q8 hn23 ?_; walk_at "QZ useN")
  intro vJ h9 tk9 tl9 nw24 o9 F9 N2 sA sB hn24
  replace hS : ShelfG w.params (In nw24) sv := hS.mono fun a o q => sA _ q
  replace hH := hH.mono fun a o q => sA _ q
  replace hlc := sA _ hlc
  replace hB := hB.mono fun a o q => sA _ q
  replace nP := nP.mono sA
  replace hI2 := hI2.mono fun a o q => sA _ q
  have hJ := o9.mono fun a o q => sB _ q
  refine hJ.genC ?_
  try clear hJ
  intro hJ1 hJ2 hJ3 hJ4 hJf hJ ehJ
  clear sA sB o9 hIn NN hn23
  k_steps
  refine .go ?_
  rename News _ _ _ _ => NN
  have hIn := in3 NN
  (refine' usePuL (c_numbers (hS.mono hIn) (hJ.mono hIn) hk2) ?q1 ?q2 ?q3 NN ?q5 ?q6 ?q7 ?q8 hn24 ?_; walk_at "QZ useN")
  intro vK h9 tk9 tl9 nw25 o9 F9 N2 sA sB hn25
  replace hS : ShelfG w.params (In nw25) sv := hS.mono fun a o q => sA _ q
  replace hH := hH.mono fun a o q => sA _ q
  replace hlc := sA _ hlc
  replace hB := hB.mono fun a o q => sA _ q
  replace nP := nP.mono sA
  replace hI2 := hI2.mono fun a o q => sA _ q
  replace hJ := hJ.mono fun a o q => sA _ q
  have nJ := o9.mono sB
  clear sA sB o9 hIn NN hn24
  k_steps
  refine .go ?_
  rename News _ _ _ _ => NN
  refine ne_dat NN nJ (fun p hp => .tail _ (.tail _ (.tail _ hp))) nP (fun p hp => .tail _ (.tail _ (.tail _ hp))) (kqd_n _ _ _ _ _ _) (nDat_eq (moved_one ehJ)) (by ke_room) ?_
  clear hI2 hJ nJ
  clear ehJ
  k_steps
  refine .go ?_
  rename News _ _ _ _ => NN
  (refine' usePuW (c_drawP (Cells.news NN (a := I) (by k_mem) hwi hml) hpu (by omega) (by decide) (by decide) hIP) (UpdF.head (List.forall_mem_cons.mpr ⟨hIP, List.forall_mem_cons.mpr ⟨l9a, hn25⟩⟩)) ?q1 ?q2 ?q3 NN ?q5 ?q6 ?q7 ?q8 ?_; walk_at "QZ useN")
  intro rt trt h9 tk9 oc7 hprt hlrt hurt F9 N9
  clear NN
  k_sweep
  k_steps
  refine .go ?_
  rename News _ _ _ _ => NN
  (refine' usePuW (c_drawP (Cells.news NN (a := I) (by k_mem) hwi hml) hprt (by omega) (by decide) (by decide) hIP) (UpdF.head (List.forall_mem_cons.mpr ⟨hIP, List.forall_mem_cons.mpr ⟨l9a, hn25⟩⟩)) ?q1 ?q2 ?q3 NN ?q5 ?q6 ?q7 ?q8 ?_; walk_at "QZ useN")
  intro rx trx h9 tk9 oc8 hprx hlrx hurx F9 N9
  clear NN
  k_sweep
  k_steps
  refine .go ?_
  rename News _ _ _ _ => NN
  (refine' usePuW (c_drawP (Cells.news NN (a := I) (by k_mem) hwi hml) hprx (by omega) (by decide) (by decide) hIP) (UpdF.head (List.forall_mem_cons.mpr ⟨hIP, List.forall_mem_cons.mpr ⟨l9a, hn25⟩⟩)) ?q1 ?q2 ?q3 NN ?q5 ?q6 ?q7 ?q8 ?_; walk_at "QZ useN")
  intro yy tyy h9 tk9 oc9 hpyy hlyy huyy F9 N9
  clear NN
  k_sweep
  k_steps
  rename News _ _ _ _ => NN0
  have NN : News _ _ _ nw25 := fun p hp => NN0 p (.tail _ (.tail _ (.tail _ (.tail _ hp))))
  clear NN0 hn25
  refine .go ?_
  rename News _ _ _ _ => NN
  have hIn := in0 NN
  (refine' usePuL0 (c_quarter) ?q1 ?q2 ?q3 NN ?q5 ?q6 ?q7 ?q8 ?_; walk_at "QZ useN")
  intro w1 h9 tk9 tl9 nx1 o9 F9 N2 sA sB
  replace hS : ShelfG w.params (In nx1) sv := hS.mono fun a o q => sA _ q
  replace hH := hH.mono fun a o q => sA _ q
  replace hlc := sA _ hlc
  replace hB := hB.mono fun a o q => sA _ q
  replace nP := nP.mono sA
  have hQ1 := o9.mono fun a o q => sB _ q
  clear sA sB o9 hIn NN
  k_steps
  refine .go ?_
  rename News _ _ _ _ => NN
  have hIn := in0 NN
  (refine' usePuL0 (c_quarter) ?q1 ?q2 ?q3 NN ?q5 ?q6 ?q7 ?q8 ?_; walk_at "QZ useN")
  intro w2 h9 tk9 tl9 nx2 o9 F9 N2 sA sB
  replace hS : ShelfG w.params (In nx2) sv := hS.mono fun a o q => sA _ q
  replace hH := hH.mono fun a o q => sA _ q
  replace hlc := sA _ hlc
  replace hB := hB.mono fun a o q => sA _ q
  replace nP := nP.mono sA
  replace hQ1 := hQ1.mono fun a o q => sA _ q
  have hQ2 := o9.mono fun a o q => sB _ q
  clear sA sB o9 hIn NN
  k_steps
  rename News _ _ _ _ => NN0
  refine cons0C NN0 ?_
  intro nx3 NN sA eT1
  replace hS : ShelfG w.params (In nx3) sv := hS.mono fun a o q => sA _ q
  replace hH := hH.mono fun a o q => sA _ q
  replace hlc := sA _ hlc
  replace hB := hB.mono fun a o q => sA _ q
  replace nP := nP.mono sA
  replace hQ1 := hQ1.mono fun a o q => sA _ q
  replace hQ2 := hQ2.mono fun a o q => sA _ q
  clear sA NN0
  refine .go ?_
  rename News _ _ _ _ => NN
  have hIn := in0 NN
  (refine' usePuL0 (c_translation _ _ _ _) ?q1 ?q2 ?q3 NN ?q5 ?q6 ?q7 ?q8 ?_; walk_at "QZ useN")
  intro w3 h9 tk9 tl9 nx4 o9 F9 N2 sA sB
  replace hS : ShelfG w.params (In nx4) sv := hS.mono fun a o q => sA _ q
  replace hH := hH.mono fun a o q => sA _ q
  replace hlc := sA _ hlc
  replace hB := hB.mono fun a o q => sA _ q
  replace nP := nP.mono sA
  replace hQ1 := hQ1.mono fun a o q => sA _ q
  replace hQ2 := hQ2.mono fun a o q => sA _ q
  replace eT1 := sA _ eT1
  have hQ3 := o9.mono fun a o q => sB _ q
  clear sA sB o9 hIn NN
  k_steps
  refine .go ?_
  rename News _ _ _ _ => NN
  have hIn := in0 NN
  (refine' usePuL0 (c_translation _ _ _ _) ?q1 ?q2 ?q3 NN ?q5 ?q6 ?q7 ?q8 ?_; walk_at "QZ useN")
  intro w4 h9 tk9 tl9 nx5 o9 F9 N2 sA sB
  replace hS : ShelfG w.params (In nx5) sv := hS.mono fun a o q => sA _ q
  replace hH := hH.mono fun a o q => sA _ q
  replace hlc := sA _ hlc
  replace hB := hB.mono fun a o q => sA _ q
  replace nP := nP.mono sA
  replace hQ1 := hQ1.mono fun a o q => sA _ q
  replace hQ2 := hQ2.mono fun a o q => sA _ q
  replace eT1 := sA _ eT1
  replace hQ3 := hQ3.mono fun a o q => sA _ q
  have hQ4 := o9.mono fun a o q => sB _ q
  clear sA sB o9 hIn NN
  k_steps
  rename News _ _ _ _ => NN0
  refine cons0C NN0 ?_
  intro nx6 NN sA0 eT
  have eT2 := sA0 _ (.head _)
  have sA : ∀ p ∈ nx5, p ∈ nx6 := fun p hp => sA0 p (.tail _ hp)
  replace hS : ShelfG w.params (In nx6) sv := hS.mono fun a o q => sA _ q
  replace hH := hH.mono fun a o q => sA _ q
  replace hlc := sA _ hlc
  replace hB := hB.mono fun a o q => sA _ q
  replace nP := nP.mono sA
  replace hQ1 := hQ1.mono fun a o q => sA _ q
  replace hQ2 := hQ2.mono fun a o q => sA _ q
  replace eT1 := sA _ eT1
  replace hQ3 := hQ3.mono fun a o q => sA _ q
  replace hQ4 := hQ4.mono fun a o q => sA _ q
  clear sA sA0 NN0
  have hpair := two_of (P := PairB w.params (In nx6)) (PairB.mk eT1 hQ1 hQ2 (turn_ok hlrt hurt) (turn_straight _) (turn_straight _) (turn_bnd _)) (PairB.mk eT2 hQ3 hQ4 (shift_ok _ _) shift_straight shift_straight (shift_bnd ⟨hlrx, hurx⟩ ⟨hlyy, huyy⟩))
  clear eT1 eT2 hQ1 hQ2 hQ3 hQ4
  refine .go ?_
  have hT : Heap.IsTuple _ _ _ := ⟨_, in0 NN _ _ eT, rfl, _, rfl⟩
  refine iter_invT (fun _ => LoopL [(Str.ofString "shelf", sv), (Str.ofString "head", .ref dH), (Str.ofString "plain", vF), (Str.ofString "twice", vB), (Str.ofString "many", .int k trk)] nx6) rfl (by k_asm) NN hT (L_neT (by k_asm) hT) ⟨names5 rfl rfl rfl rfl rfl, fun _ h => h⟩ ?step ?fin
  case step =>
    intro I i v m₁ nw h₁ tk₁ own hv hJ hI hnnw F₁ N₁
    refine and2 hJ ?_
    try clear hJ
    intro hms hsub
    refine ex15 (hpair i v hv) ?_
    intro T9 v1 v2 a1 a2 a3 a4 a5 a6 e1 e2 e3 e4 e5 e6 zz9
    refine and8 zz9 ?_
    try clear zz9
    intro e9r174 hT9m hM1 hM2 hSame hst1 hst2 hbd
    subst e9r174
    have hn1 := hms _ (.head _)
    have hn2 := hms _ (.tail _ (.head _))
    have hn3 := hms _ (.tail _ (.tail _ (.head _)))
    have hn4 := hms _ (.tail _ (.tail _ (.tail _ (.head _))))
    have hn5 := hms _ (.tail _ (.tail _ (.tail _ (.tail _ (.head _)))))
    dsimp only at hn1 hn2 hn3 hn4 hn5
    clear hms hpair hv hT eT
    have hT9 : IsTup h₁ T9 #[v1, v2] := ⟨_, inI N₁ _ _ (hsub _ hT9m), rfl, _, rfl⟩
    replace hS : ShelfG w.params (In nw) sv := hS.mono fun a o q => hsub _ q
    replace hH := hH.mono fun a o q => hsub _ q
    replace nP := nP.mono hsub
    replace hM1 := hM1.mono fun a o q => hsub _ q
    replace hM2 := hM2.mono fun a o q => hsub _ q
    k_sweep
    k_steps
    refine .go ?_
    refine wpAny_If ?_
    k_steps
    refine .go ?_
    rename News _ _ _ _ => NN
    have hIn := inI NN
    (refine' usePuLI (c_movedH (hS.mono hIn) (hH.mono hIn) q1 q2 q3 q4 q5 (hM1.mono hIn)) ?q1 ?q2 ?q3 NN ?q5 ?q6 ?q7 ?q8 hI hnnw ?_; walk_at "QZ useN")
    intro vX h9 tk9 tl9 nx11 o9 F9 N2 sA sB hnnx11
    replace hS : ShelfG w.params (In nx11) sv := hS.mono fun a o q => sA _ q
    replace hH := hH.mono fun a o q => sA _ q
    replace nP := nP.mono sA
    replace hM1 := hM1.mono fun a o q => sA _ q
    replace hM2 := hM2.mono fun a o q => sA _ q
    replace hsub := fun p hp => sA p (hsub p hp)
    have hX := o9.mono fun a o q => sB _ q
    refine hX.genC ?_
    try clear hX
    intro hX1 hX2 hX3 hX4 hXf hX ehX
    clear sA sB o9 hIn NN hnnw
    k_steps
    refine and5 (sm_moved ehX hbd (min9 ⟨b1, c1⟩ ⟨b3, c3⟩) (min9 ⟨b2, c2⟩ ⟨b4, c4⟩) (max9 ⟨b1, c1⟩ ⟨b3, c3⟩) (max9 ⟨b2, c2⟩ ⟨b4, c4⟩) hnq) ?_
    intro r1 r2 r3 r4 r5
    refine .go ?_
    rename News _ _ _ _ => NN
    have hIn := inI NN
    (refine' usePuLI (c_movedH (hS.mono hIn) (hX.mono hIn) r1 r2 r3 r4 r5 (hM2.mono hIn)) ?q1 ?q2 ?q3 NN ?q5 ?q6 ?q7 ?q8 hI hnnx11 ?_; walk_at "QZ useN")
    intro vY h9 tk9 tl9 nx12 o9 F9 N2 sA sB hnnx12
    replace hS : ShelfG w.params (In nx12) sv := hS.mono fun a o q => sA _ q
    replace hH := hH.mono fun a o q => sA _ q
    replace nP := nP.mono sA
    replace hM1 := hM1.mono fun a o q => sA _ q
    replace hM2 := hM2.mono fun a o q => sA _ q
    replace hsub := fun p hp => sA p (hsub p hp)
    replace hX := hX.mono fun a o q => sA _ q
    have hY := o9.mono fun a o q => sB _ q
    refine hY.genC ?_
    try clear hY
    intro hY1 hY2 hY3 hY4 hYf hY ehY
    clear sA sB o9 hIn NN hnnx11
    k_steps
    refine .go ?_
    rename News _ _ _ _ => NN
    have hIn := inI NN
    (refine' usePuLI (c_numbers (hS.mono hIn) (hY.mono hIn) hk2) ?q1 ?q2 ?q3 NN ?q5 ?q6 ?q7 ?q8 hI hnnx12 ?_; walk_at "QZ useN")
    intro vZ h9 tk9 tl9 nx13 o9 F9 N2 sA sB hnnx13
    replace hS : ShelfG w.params (In nx13) sv := hS.mono fun a o q => sA _ q
    replace hH := hH.mono fun a o q => sA _ q
    replace nP := nP.mono sA
    replace hM1 := hM1.mono fun a o q => sA _ q
    replace hM2 := hM2.mono fun a o q => sA _ q
    replace hsub := fun p hp => sA p (hsub p hp)
    replace hX := hX.mono fun a o q => sA _ q
    replace hY := hY.mono fun a o q => sA _ q
    have nY := o9.mono sB
    clear sA sB o9 hIn NN hnnx12
    k_steps
    refine .go ?_
    rename News _ _ _ _ => NN
    refine ne_dat NN nY (fun p hp => List.mem_append.mpr (.inr hp)) nP (fun p hp => List.mem_append.mpr (.inr hp)) (kqd_n _ _ _ _ _ _) (nDat_eq (moved_back ehX ehY hSame hst1 hst2)) (by ke_room) ?_
    k_steps
    refine .go ?_
    rename News _ _ _ _ => NN
    rename Fr _ _ _ _ => FF
    exact LoopStepU.intro FF NN (fun p hp h => hnnx13 p hp (List.mem_singleton.mp h)) ⟨names5b hn1 hn2 hn3 hn4 hn5, hsub⟩
  case fin =>
    intro h5 tk5 m5 nw5 F5 N5 hJ5
    refine and2 hJ5 ?_
    try clear hJ5
    intro hms hsub
    refine ex4 (hB.end) ?_
    intro dB oB tB kvB zz9
    refine and7 zz9 ?_
    try clear zz9
    intro e9r175 hBm hBlo hBd hBF hBC hBQ
    subst e9r175
    have hn1 := hms _ (.head _)
    have hn4 := hms _ (.tail _ (.tail _ (.tail _ (.head _))))
    have hn5 := hms _ (.tail _ (.tail _ (.tail _ (.tail _ (.head _)))))
    dsimp only at hn1 hn4 hn5
    clear hms hpair hT eT
    replace hBm := hsub _ hBm
    replace hlc := hsub _ hlc
    clear hsub
    k_sweep
    k_steps
    rename News _ _ _ _ => NN5
    refine .go ?_
    refine kda_item (knd := strKind _ _) NN5 hBm hBd (strKind_is _ _ _ _) hBF ?_
    k_steps
    refine .go ?_
    refine kda_item (knd := strKind _ _) NN5 hBm hBd (strKind_is _ _ _ _) hBC ?_
    k_steps
    refine .go ?_
    rename News _ _ _ _ => NN
    have hIn := in0 NN
    (refine' usePuL0 (c_told_list ⟨_, hIn _ _ hlc, rfl, _, rfl⟩) ?q1 ?q2 ?q3 NN ?q5 ?q6 ?q7 ?q8 ?_; walk_at "QZ useN")
    intro vT h9 tk9 tl9 nx21 o9 F9 N2 sA sB
    replace hlc := sA _ hlc
    replace hBm := sA _ hBm
    have hD1 := (told_dat o9).mono sB
    clear sA sB o9 hIn NN
    k_steps
    refine .go ?_
    rename News _ _ _ _ => NN
    refine kda_in (knd := strKind _ _) NN hBm hBd hBlo (strKind_is _ _ _ _) _ hBQ ?_
    k_steps
    rename News _ _ _ _ => NN0
    refine cons0C NN0 ?_
    intro nx22 NN sA0 eL
    have eR := sA0 _ (.head _)
    replace hD1 := hD1.mono fun p hp => sA0 p (.tail _ hp)
    clear sA0 NN0
    refine .go ?_
    rename News _ _ _ _ => NN
    have hIn := in0 NN
    (refine' usePuL0 (c_told_list ⟨_, hIn _ _ eL, rfl, _, rfl⟩) ?q1 ?q2 ?q3 NN ?q5 ?q6 ?q7 ?q8 ?_; walk_at "QZ useN")
    intro vU h9 tk9 tl9 nx23 o9 F9 N2 sA sB
    replace hD1 := hD1.mono sA
    replace eR := sA _ eR
    have hD2 := (told_dat o9).mono sB
    clear sA sB o9 hIn NN
    k_steps
    refine .go ?_
    rename News _ _ _ _ => NN
    refine eq_ret NN (.tail _ eR) (.head _) hD1 (fun p hp => .tail _ hp) hD2 (fun p hp => .tail _ hp) ?he (by ke_room) ?_
    rotate_left
    subst hG
    show GoodW _ _ _ _ _ (.ok (.ret (.bool true))) _
    rotate_left
    exact rfl
    refine goodW_bool (by with_reducible assumption) zhg (raisesW_false ?_) ?_
    · wrow_none_raised
    · kc_post
end

end Qz
end

theorem PySem.Challenge.cw_qz0078_01_holds : PySem.Challenge.rw_qz0078_01.Holds :=
  Qz.main
