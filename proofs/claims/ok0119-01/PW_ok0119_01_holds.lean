import PyProof.Rows.All
import Wide.All
import OpenK.AllK
import Wide.FinOn
import Lean
import PySem.Challenge.RW_ok0119_01
open PySem PySem.W PyProof.Rows
set_option Elab.async false
set_option maxRecDepth 100000
set_option maxHeartbeats 8000000
set_option compiler.extract_closed false
set_option linter.unusedVariables false
namespace Mine
section
local macro_rules | `(tactic| o_head $_) => `(tactic| assumption)
/-- gives the constant hd.heap_1: what stands written at the law's call -/
theorem hd (h : PySem.Challenge.rw_ok0119_01.row.Holds) : PySem.Challenge.rw_ok0119_01.row.Holds := by
  k_head
end
inductive ShP1V1P3 {a0 : Type} (p0 : Prop) (p1 : a0 → Prop) (p2 : a0 → Prop) (p3 : a0 → Prop) : Prop
  | mk (h0 : p0) (x0 : a0) (h1 : p1 x0) (h2 : p2 x0) (h3 : p3 x0) : ShP1V1P3 p0 p1 p2 p3
inductive ShP1V2P2V4P6 {a0 a1 a2 a3 a4 a5 : Type} (p0 : Prop) (p1 : a0 → a1 → Prop) (p2 : a0 → a1 → Prop) (p3 : a0 → a1 → a2 → a3 → a4 → a5 → Prop) (p4 : a0 → a1 → a2 → a3 → a4 → a5 → Prop) (p5 : a0 → a1 → a2 → a3 → a4 → a5 → Prop) (p6 : a0 → a1 → a2 → a3 → a4 → a5 → Prop) (p7 : a0 → a1 → a2 → a3 → a4 → a5 → Prop) (p8 : a0 → a1 → a2 → a3 → a4 → a5 → Prop) : Prop
  | mk (h0 : p0) (x0 : a0) (x1 : a1) (h1 : p1 x0 x1) (h2 : p2 x0 x1) (x2 : a2) (x3 : a3) (x4 : a4) (x5 : a5) (h3 : p3 x0 x1 x2 x3 x4 x5) (h4 : p4 x0 x1 x2 x3 x4 x5) (h5 : p5 x0 x1 x2 x3 x4 x5) (h6 : p6 x0 x1 x2 x3 x4 x5) (h7 : p7 x0 x1 x2 x3 x4 x5) (h8 : p8 x0 x1 x2 x3 x4 x5) : ShP1V2P2V4P6 p0 p1 p2 p3 p4 p5 p6 p7 p8
inductive ShP1V2P3 {a0 a1 : Type} (p0 : Prop) (p1 : a0 → a1 → Prop) (p2 : a0 → a1 → Prop) (p3 : a0 → a1 → Prop) : Prop
  | mk (h0 : p0) (x0 : a0) (x1 : a1) (h1 : p1 x0 x1) (h2 : p2 x0 x1) (h3 : p3 x0 x1) : ShP1V2P3 p0 p1 p2 p3
inductive ShP1V2P5 {a0 a1 : Type} (p0 : Prop) (p1 : a0 → a1 → Prop) (p2 : a0 → a1 → Prop) (p3 : a0 → a1 → Prop) (p4 : a0 → a1 → Prop) (p5 : a0 → a1 → Prop) : Prop
  | mk (h0 : p0) (x0 : a0) (x1 : a1) (h1 : p1 x0 x1) (h2 : p2 x0 x1) (h3 : p3 x0 x1) (h4 : p4 x0 x1) (h5 : p5 x0 x1) : ShP1V2P5 p0 p1 p2 p3 p4 p5
inductive ShP1V2P7 {a0 a1 : Type} (p0 : Prop) (p1 : a0 → a1 → Prop) (p2 : a0 → a1 → Prop) (p3 : a0 → a1 → Prop) (p4 : a0 → a1 → Prop) (p5 : a0 → a1 → Prop) (p6 : a0 → a1 → Prop) (p7 : a0 → a1 → Prop) : Prop
  | mk (h0 : p0) (x0 : a0) (x1 : a1) (h1 : p1 x0 x1) (h2 : p2 x0 x1) (h3 : p3 x0 x1) (h4 : p4 x0 x1) (h5 : p5 x0 x1) (h6 : p6 x0 x1) (h7 : p7 x0 x1) : ShP1V2P7 p0 p1 p2 p3 p4 p5 p6 p7
inductive ShP1V3P3 {a0 a1 a2 : Type} (p0 : Prop) (p1 : a0 → a1 → a2 → Prop) (p2 : a0 → a1 → a2 → Prop) (p3 : a0 → a1 → a2 → Prop) : Prop
  | mk (h0 : p0) (x0 : a0) (x1 : a1) (x2 : a2) (h1 : p1 x0 x1 x2) (h2 : p2 x0 x1 x2) (h3 : p3 x0 x1 x2) : ShP1V3P3 p0 p1 p2 p3
inductive ShP1V4P2 {a0 a1 a2 a3 : Type} (p0 : Prop) (p1 : a0 → a1 → a2 → a3 → Prop) (p2 : a0 → a1 → a2 → a3 → Prop) : Prop
  | mk (h0 : p0) (x0 : a0) (x1 : a1) (x2 : a2) (x3 : a3) (h1 : p1 x0 x1 x2 x3) (h2 : p2 x0 x1 x2 x3) : ShP1V4P2 p0 p1 p2
inductive ShP1V4P3 {a0 a1 a2 a3 : Type} (p0 : Prop) (p1 : a0 → a1 → a2 → a3 → Prop) (p2 : a0 → a1 → a2 → a3 → Prop) (p3 : a0 → a1 → a2 → a3 → Prop) : Prop
  | mk (h0 : p0) (x0 : a0) (x1 : a1) (x2 : a2) (x3 : a3) (h1 : p1 x0 x1 x2 x3) (h2 : p2 x0 x1 x2 x3) (h3 : p3 x0 x1 x2 x3) : ShP1V4P3 p0 p1 p2 p3
inductive ShP1V5P8 {a0 a1 a2 a3 a4 : Type} (p0 : Prop) (p1 : a0 → a1 → a2 → a3 → a4 → Prop) (p2 : a0 → a1 → a2 → a3 → a4 → Prop) (p3 : a0 → a1 → a2 → a3 → a4 → Prop) (p4 : a0 → a1 → a2 → a3 → a4 → Prop) (p5 : a0 → a1 → a2 → a3 → a4 → Prop) (p6 : a0 → a1 → a2 → a3 → a4 → Prop) (p7 : a0 → a1 → a2 → a3 → a4 → Prop) (p8 : a0 → a1 → a2 → a3 → a4 → Prop) : Prop
  | mk (h0 : p0) (x0 : a0) (x1 : a1) (x2 : a2) (x3 : a3) (x4 : a4) (h1 : p1 x0 x1 x2 x3 x4) (h2 : p2 x0 x1 x2 x3 x4) (h3 : p3 x0 x1 x2 x3 x4) (h4 : p4 x0 x1 x2 x3 x4) (h5 : p5 x0 x1 x2 x3 x4) (h6 : p6 x0 x1 x2 x3 x4) (h7 : p7 x0 x1 x2 x3 x4) (h8 : p8 x0 x1 x2 x3 x4) : ShP1V5P8 p0 p1 p2 p3 p4 p5 p6 p7 p8
inductive ShP1V6P8 {a0 a1 a2 a3 a4 a5 : Type} (p0 : Prop) (p1 : a0 → a1 → a2 → a3 → a4 → a5 → Prop) (p2 : a0 → a1 → a2 → a3 → a4 → a5 → Prop) (p3 : a0 → a1 → a2 → a3 → a4 → a5 → Prop) (p4 : a0 → a1 → a2 → a3 → a4 → a5 → Prop) (p5 : a0 → a1 → a2 → a3 → a4 → a5 → Prop) (p6 : a0 → a1 → a2 → a3 → a4 → a5 → Prop) (p7 : a0 → a1 → a2 → a3 → a4 → a5 → Prop) (p8 : a0 → a1 → a2 → a3 → a4 → a5 → Prop) : Prop
  | mk (h0 : p0) (x0 : a0) (x1 : a1) (x2 : a2) (x3 : a3) (x4 : a4) (x5 : a5) (h1 : p1 x0 x1 x2 x3 x4 x5) (h2 : p2 x0 x1 x2 x3 x4 x5) (h3 : p3 x0 x1 x2 x3 x4 x5) (h4 : p4 x0 x1 x2 x3 x4 x5) (h5 : p5 x0 x1 x2 x3 x4 x5) (h6 : p6 x0 x1 x2 x3 x4 x5) (h7 : p7 x0 x1 x2 x3 x4 x5) (h8 : p8 x0 x1 x2 x3 x4 x5) : ShP1V6P8 p0 p1 p2 p3 p4 p5 p6 p7 p8
inductive ShP1V8P3 {a0 a1 a2 a3 a4 a5 a6 a7 : Type} (p0 : Prop) (p1 : a0 → a1 → a2 → a3 → a4 → a5 → a6 → a7 → Prop) (p2 : a0 → a1 → a2 → a3 → a4 → a5 → a6 → a7 → Prop) (p3 : a0 → a1 → a2 → a3 → a4 → a5 → a6 → a7 → Prop) : Prop
  | mk (h0 : p0) (x0 : a0) (x1 : a1) (x2 : a2) (x3 : a3) (x4 : a4) (x5 : a5) (x6 : a6) (x7 : a7) (h1 : p1 x0 x1 x2 x3 x4 x5 x6 x7) (h2 : p2 x0 x1 x2 x3 x4 x5 x6 x7) (h3 : p3 x0 x1 x2 x3 x4 x5 x6 x7) : ShP1V8P3 p0 p1 p2 p3
inductive ShV10P4 {a0 a1 a2 a3 a4 a5 a6 a7 a8 a9 : Type} (p0 : a0 → a1 → a2 → a3 → a4 → a5 → a6 → a7 → a8 → a9 → Prop) (p1 : a0 → a1 → a2 → a3 → a4 → a5 → a6 → a7 → a8 → a9 → Prop) (p2 : a0 → a1 → a2 → a3 → a4 → a5 → a6 → a7 → a8 → a9 → Prop) (p3 : a0 → a1 → a2 → a3 → a4 → a5 → a6 → a7 → a8 → a9 → Prop) : Prop
  | mk (x0 : a0) (x1 : a1) (x2 : a2) (x3 : a3) (x4 : a4) (x5 : a5) (x6 : a6) (x7 : a7) (x8 : a8) (x9 : a9) (h0 : p0 x0 x1 x2 x3 x4 x5 x6 x7 x8 x9) (h1 : p1 x0 x1 x2 x3 x4 x5 x6 x7 x8 x9) (h2 : p2 x0 x1 x2 x3 x4 x5 x6 x7 x8 x9) (h3 : p3 x0 x1 x2 x3 x4 x5 x6 x7 x8 x9) : ShV10P4 p0 p1 p2 p3
inductive ShV12P7 {a0 a1 a2 a3 a4 a5 a6 a7 a8 a9 a10 a11 : Type} (p0 : a0 → a1 → a2 → a3 → a4 → a5 → a6 → a7 → a8 → a9 → a10 → a11 → Prop) (p1 : a0 → a1 → a2 → a3 → a4 → a5 → a6 → a7 → a8 → a9 → a10 → a11 → Prop) (p2 : a0 → a1 → a2 → a3 → a4 → a5 → a6 → a7 → a8 → a9 → a10 → a11 → Prop) (p3 : a0 → a1 → a2 → a3 → a4 → a5 → a6 → a7 → a8 → a9 → a10 → a11 → Prop) (p4 : a0 → a1 → a2 → a3 → a4 → a5 → a6 → a7 → a8 → a9 → a10 → a11 → Prop) (p5 : a0 → a1 → a2 → a3 → a4 → a5 → a6 → a7 → a8 → a9 → a10 → a11 → Prop) (p6 : a0 → a1 → a2 → a3 → a4 → a5 → a6 → a7 → a8 → a9 → a10 → a11 → Prop) : Prop
  | mk (x0 : a0) (x1 : a1) (x2 : a2) (x3 : a3) (x4 : a4) (x5 : a5) (x6 : a6) (x7 : a7) (x8 : a8) (x9 : a9) (x10 : a10) (x11 : a11) (h0 : p0 x0 x1 x2 x3 x4 x5 x6 x7 x8 x9 x10 x11) (h1 : p1 x0 x1 x2 x3 x4 x5 x6 x7 x8 x9 x10 x11) (h2 : p2 x0 x1 x2 x3 x4 x5 x6 x7 x8 x9 x10 x11) (h3 : p3 x0 x1 x2 x3 x4 x5 x6 x7 x8 x9 x10 x11) (h4 : p4 x0 x1 x2 x3 x4 x5 x6 x7 x8 x9 x10 x11) (h5 : p5 x0 x1 x2 x3 x4 x5 x6 x7 x8 x9 x10 x11) (h6 : p6 x0 x1 x2 x3 x4 x5 x6 x7 x8 x9 x10 x11) : ShV12P7 p0 p1 p2 p3 p4 p5 p6
inductive ShV13P2 {a0 a1 a2 a3 a4 a5 a6 a7 a8 a9 a10 a11 a12 : Type} (p0 : a0 → a1 → a2 → a3 → a4 → a5 → a6 → a7 → a8 → a9 → a10 → a11 → a12 → Prop) (p1 : a0 → a1 → a2 → a3 → a4 → a5 → a6 → a7 → a8 → a9 → a10 → a11 → a12 → Prop) : Prop
  | mk (x0 : a0) (x1 : a1) (x2 : a2) (x3 : a3) (x4 : a4) (x5 : a5) (x6 : a6) (x7 : a7) (x8 : a8) (x9 : a9) (x10 : a10) (x11 : a11) (x12 : a12) (h0 : p0 x0 x1 x2 x3 x4 x5 x6 x7 x8 x9 x10 x11 x12) (h1 : p1 x0 x1 x2 x3 x4 x5 x6 x7 x8 x9 x10 x11 x12) : ShV13P2 p0 p1
inductive ShV13P5 {a0 a1 a2 a3 a4 a5 a6 a7 a8 a9 a10 a11 a12 : Type} (p0 : a0 → a1 → a2 → a3 → a4 → a5 → a6 → a7 → a8 → a9 → a10 → a11 → a12 → Prop) (p1 : a0 → a1 → a2 → a3 → a4 → a5 → a6 → a7 → a8 → a9 → a10 → a11 → a12 → Prop) (p2 : a0 → a1 → a2 → a3 → a4 → a5 → a6 → a7 → a8 → a9 → a10 → a11 → a12 → Prop) (p3 : a0 → a1 → a2 → a3 → a4 → a5 → a6 → a7 → a8 → a9 → a10 → a11 → a12 → Prop) (p4 : a0 → a1 → a2 → a3 → a4 → a5 → a6 → a7 → a8 → a9 → a10 → a11 → a12 → Prop) : Prop
  | mk (x0 : a0) (x1 : a1) (x2 : a2) (x3 : a3) (x4 : a4) (x5 : a5) (x6 : a6) (x7 : a7) (x8 : a8) (x9 : a9) (x10 : a10) (x11 : a11) (x12 : a12) (h0 : p0 x0 x1 x2 x3 x4 x5 x6 x7 x8 x9 x10 x11 x12) (h1 : p1 x0 x1 x2 x3 x4 x5 x6 x7 x8 x9 x10 x11 x12) (h2 : p2 x0 x1 x2 x3 x4 x5 x6 x7 x8 x9 x10 x11 x12) (h3 : p3 x0 x1 x2 x3 x4 x5 x6 x7 x8 x9 x10 x11 x12) (h4 : p4 x0 x1 x2 x3 x4 x5 x6 x7 x8 x9 x10 x11 x12) : ShV13P5 p0 p1 p2 p3 p4
inductive ShV15P16 {a0 a1 a2 a3 a4 a5 a6 a7 a8 a9 a10 a11 a12 a13 a14 : Type} (p0 : a0 → a1 → a2 → a3 → a4 → a5 → a6 → a7 → a8 → a9 → a10 → a11 → a12 → a13 → a14 → Prop) (p1 : a0 → a1 → a2 → a3 → a4 → a5 → a6 → a7 → a8 → a9 → a10 → a11 → a12 → a13 → a14 → Prop) (p2 : a0 → a1 → a2 → a3 → a4 → a5 → a6 → a7 → a8 → a9 → a10 → a11 → a12 → a13 → a14 → Prop) (p3 : a0 → a1 → a2 → a3 → a4 → a5 → a6 → a7 → a8 → a9 → a10 → a11 → a12 → a13 → a14 → Prop) (p4 : a0 → a1 → a2 → a3 → a4 → a5 → a6 → a7 → a8 → a9 → a10 → a11 → a12 → a13 → a14 → Prop) (p5 : a0 → a1 → a2 → a3 → a4 → a5 → a6 → a7 → a8 → a9 → a10 → a11 → a12 → a13 → a14 → Prop) (p6 : a0 → a1 → a2 → a3 → a4 → a5 → a6 → a7 → a8 → a9 → a10 → a11 → a12 → a13 → a14 → Prop) (p7 : a0 → a1 → a2 → a3 → a4 → a5 → a6 → a7 → a8 → a9 → a10 → a11 → a12 → a13 → a14 → Prop) (p8 : a0 → a1 → a2 → a3 → a4 → a5 → a6 → a7 → a8 → a9 → a10 → a11 → a12 → a13 → a14 → Prop) (p9 : a0 → a1 → a2 → a3 → a4 → a5 → a6 → a7 → a8 → a9 → a10 → a11 → a12 → a13 → a14 → Prop) (p10 : a0 → a1 → a2 → a3 → a4 → a5 → a6 → a7 → a8 → a9 → a10 → a11 → a12 → a13 → a14 → Prop) (p11 : a0 → a1 → a2 → a3 → a4 → a5 → a6 → a7 → a8 → a9 → a10 → a11 → a12 → a13 → a14 → Prop) (p12 : a0 → a1 → a2 → a3 → a4 → a5 → a6 → a7 → a8 → a9 → a10 → a11 → a12 → a13 → a14 → Prop) (p13 : a0 → a1 → a2 → a3 → a4 → a5 → a6 → a7 → a8 → a9 → a10 → a11 → a12 → a13 → a14 → Prop) (p14 : a0 → a1 → a2 → a3 → a4 → a5 → a6 → a7 → a8 → a9 → a10 → a11 → a12 → a13 → a14 → Prop) (p15 : a0 → a1 → a2 → a3 → a4 → a5 → a6 → a7 → a8 → a9 → a10 → a11 → a12 → a13 → a14 → Prop) : Prop
  | mk (x0 : a0) (x1 : a1) (x2 : a2) (x3 : a3) (x4 : a4) (x5 : a5) (x6 : a6) (x7 : a7) (x8 : a8) (x9 : a9) (x10 : a10) (x11 : a11) (x12 : a12) (x13 : a13) (x14 : a14) (h0 : p0 x0 x1 x2 x3 x4 x5 x6 x7 x8 x9 x10 x11 x12 x13 x14) (h1 : p1 x0 x1 x2 x3 x4 x5 x6 x7 x8 x9 x10 x11 x12 x13 x14) (h2 : p2 x0 x1 x2 x3 x4 x5 x6 x7 x8 x9 x10 x11 x12 x13 x14) (h3 : p3 x0 x1 x2 x3 x4 x5 x6 x7 x8 x9 x10 x11 x12 x13 x14) (h4 : p4 x0 x1 x2 x3 x4 x5 x6 x7 x8 x9 x10 x11 x12 x13 x14) (h5 : p5 x0 x1 x2 x3 x4 x5 x6 x7 x8 x9 x10 x11 x12 x13 x14) (h6 : p6 x0 x1 x2 x3 x4 x5 x6 x7 x8 x9 x10 x11 x12 x13 x14) (h7 : p7 x0 x1 x2 x3 x4 x5 x6 x7 x8 x9 x10 x11 x12 x13 x14) (h8 : p8 x0 x1 x2 x3 x4 x5 x6 x7 x8 x9 x10 x11 x12 x13 x14) (h9 : p9 x0 x1 x2 x3 x4 x5 x6 x7 x8 x9 x10 x11 x12 x13 x14) (h10 : p10 x0 x1 x2 x3 x4 x5 x6 x7 x8 x9 x10 x11 x12 x13 x14) (h11 : p11 x0 x1 x2 x3 x4 x5 x6 x7 x8 x9 x10 x11 x12 x13 x14) (h12 : p12 x0 x1 x2 x3 x4 x5 x6 x7 x8 x9 x10 x11 x12 x13 x14) (h13 : p13 x0 x1 x2 x3 x4 x5 x6 x7 x8 x9 x10 x11 x12 x13 x14) (h14 : p14 x0 x1 x2 x3 x4 x5 x6 x7 x8 x9 x10 x11 x12 x13 x14) (h15 : p15 x0 x1 x2 x3 x4 x5 x6 x7 x8 x9 x10 x11 x12 x13 x14) : ShV15P16 p0 p1 p2 p3 p4 p5 p6 p7 p8 p9 p10 p11 p12 p13 p14 p15
inductive ShV16P2 {a0 a1 a2 a3 a4 a5 a6 a7 a8 a9 a10 a11 a12 a13 a14 a15 : Type} (p0 : a0 → a1 → a2 → a3 → a4 → a5 → a6 → a7 → a8 → a9 → a10 → a11 → a12 → a13 → a14 → a15 → Prop) (p1 : a0 → a1 → a2 → a3 → a4 → a5 → a6 → a7 → a8 → a9 → a10 → a11 → a12 → a13 → a14 → a15 → Prop) : Prop
  | mk (x0 : a0) (x1 : a1) (x2 : a2) (x3 : a3) (x4 : a4) (x5 : a5) (x6 : a6) (x7 : a7) (x8 : a8) (x9 : a9) (x10 : a10) (x11 : a11) (x12 : a12) (x13 : a13) (x14 : a14) (x15 : a15) (h0 : p0 x0 x1 x2 x3 x4 x5 x6 x7 x8 x9 x10 x11 x12 x13 x14 x15) (h1 : p1 x0 x1 x2 x3 x4 x5 x6 x7 x8 x9 x10 x11 x12 x13 x14 x15) : ShV16P2 p0 p1
inductive ShV17P13 {a0 a1 a2 a3 a4 a5 a6 a7 a8 a9 a10 a11 a12 a13 a14 a15 a16 : Type} (p0 : a0 → a1 → a2 → a3 → a4 → a5 → a6 → a7 → a8 → a9 → a10 → a11 → a12 → a13 → a14 → a15 → a16 → Prop) (p1 : a0 → a1 → a2 → a3 → a4 → a5 → a6 → a7 → a8 → a9 → a10 → a11 → a12 → a13 → a14 → a15 → a16 → Prop) (p2 : a0 → a1 → a2 → a3 → a4 → a5 → a6 → a7 → a8 → a9 → a10 → a11 → a12 → a13 → a14 → a15 → a16 → Prop) (p3 : a0 → a1 → a2 → a3 → a4 → a5 → a6 → a7 → a8 → a9 → a10 → a11 → a12 → a13 → a14 → a15 → a16 → Prop) (p4 : a0 → a1 → a2 → a3 → a4 → a5 → a6 → a7 → a8 → a9 → a10 → a11 → a12 → a13 → a14 → a15 → a16 → Prop) (p5 : a0 → a1 → a2 → a3 → a4 → a5 → a6 → a7 → a8 → a9 → a10 → a11 → a12 → a13 → a14 → a15 → a16 → Prop) (p6 : a0 → a1 → a2 → a3 → a4 → a5 → a6 → a7 → a8 → a9 → a10 → a11 → a12 → a13 → a14 → a15 → a16 → Prop) (p7 : a0 → a1 → a2 → a3 → a4 → a5 → a6 → a7 → a8 → a9 → a10 → a11 → a12 → a13 → a14 → a15 → a16 → Prop) (p8 : a0 → a1 → a2 → a3 → a4 → a5 → a6 → a7 → a8 → a9 → a10 → a11 → a12 → a13 → a14 → a15 → a16 → Prop) (p9 : a0 → a1 → a2 → a3 → a4 → a5 → a6 → a7 → a8 → a9 → a10 → a11 → a12 → a13 → a14 → a15 → a16 → Prop) (p10 : a0 → a1 → a2 → a3 → a4 → a5 → a6 → a7 → a8 → a9 → a10 → a11 → a12 → a13 → a14 → a15 → a16 → Prop) (p11 : a0 → a1 → a2 → a3 → a4 → a5 → a6 → a7 → a8 → a9 → a10 → a11 → a12 → a13 → a14 → a15 → a16 → Prop) (p12 : a0 → a1 → a2 → a3 → a4 → a5 → a6 → a7 → a8 → a9 → a10 → a11 → a12 → a13 → a14 → a15 → a16 → Prop) : Prop
  | mk (x0 : a0) (x1 : a1) (x2 : a2) (x3 : a3) (x4 : a4) (x5 : a5) (x6 : a6) (x7 : a7) (x8 : a8) (x9 : a9) (x10 : a10) (x11 : a11) (x12 : a12) (x13 : a13) (x14 : a14) (x15 : a15) (x16 : a16) (h0 : p0 x0 x1 x2 x3 x4 x5 x6 x7 x8 x9 x10 x11 x12 x13 x14 x15 x16) (h1 : p1 x0 x1 x2 x3 x4 x5 x6 x7 x8 x9 x10 x11 x12 x13 x14 x15 x16) (h2 : p2 x0 x1 x2 x3 x4 x5 x6 x7 x8 x9 x10 x11 x12 x13 x14 x15 x16) (h3 : p3 x0 x1 x2 x3 x4 x5 x6 x7 x8 x9 x10 x11 x12 x13 x14 x15 x16) (h4 : p4 x0 x1 x2 x3 x4 x5 x6 x7 x8 x9 x10 x11 x12 x13 x14 x15 x16) (h5 : p5 x0 x1 x2 x3 x4 x5 x6 x7 x8 x9 x10 x11 x12 x13 x14 x15 x16) (h6 : p6 x0 x1 x2 x3 x4 x5 x6 x7 x8 x9 x10 x11 x12 x13 x14 x15 x16) (h7 : p7 x0 x1 x2 x3 x4 x5 x6 x7 x8 x9 x10 x11 x12 x13 x14 x15 x16) (h8 : p8 x0 x1 x2 x3 x4 x5 x6 x7 x8 x9 x10 x11 x12 x13 x14 x15 x16) (h9 : p9 x0 x1 x2 x3 x4 x5 x6 x7 x8 x9 x10 x11 x12 x13 x14 x15 x16) (h10 : p10 x0 x1 x2 x3 x4 x5 x6 x7 x8 x9 x10 x11 x12 x13 x14 x15 x16) (h11 : p11 x0 x1 x2 x3 x4 x5 x6 x7 x8 x9 x10 x11 x12 x13 x14 x15 x16) (h12 : p12 x0 x1 x2 x3 x4 x5 x6 x7 x8 x9 x10 x11 x12 x13 x14 x15 x16) : ShV17P13 p0 p1 p2 p3 p4 p5 p6 p7 p8 p9 p10 p11 p12
inductive ShV1P5 {a0 : Type} (p0 : a0 → Prop) (p1 : a0 → Prop) (p2 : a0 → Prop) (p3 : a0 → Prop) (p4 : a0 → Prop) : Prop
  | mk (x0 : a0) (h0 : p0 x0) (h1 : p1 x0) (h2 : p2 x0) (h3 : p3 x0) (h4 : p4 x0) : ShV1P5 p0 p1 p2 p3 p4
inductive ShV1P6 {a0 : Type} (p0 : a0 → Prop) (p1 : a0 → Prop) (p2 : a0 → Prop) (p3 : a0 → Prop) (p4 : a0 → Prop) (p5 : a0 → Prop) : Prop
  | mk (x0 : a0) (h0 : p0 x0) (h1 : p1 x0) (h2 : p2 x0) (h3 : p3 x0) (h4 : p4 x0) (h5 : p5 x0) : ShV1P6 p0 p1 p2 p3 p4 p5
inductive ShV25P2 {a0 a1 a2 a3 a4 a5 a6 a7 a8 a9 a10 a11 a12 a13 a14 a15 a16 a17 a18 a19 a20 a21 a22 a23 a24 : Type} (p0 : a0 → a1 → a2 → a3 → a4 → a5 → a6 → a7 → a8 → a9 → a10 → a11 → a12 → a13 → a14 → a15 → a16 → a17 → a18 → a19 → a20 → a21 → a22 → a23 → a24 → Prop) (p1 : a0 → a1 → a2 → a3 → a4 → a5 → a6 → a7 → a8 → a9 → a10 → a11 → a12 → a13 → a14 → a15 → a16 → a17 → a18 → a19 → a20 → a21 → a22 → a23 → a24 → Prop) : Prop
  | mk (x0 : a0) (x1 : a1) (x2 : a2) (x3 : a3) (x4 : a4) (x5 : a5) (x6 : a6) (x7 : a7) (x8 : a8) (x9 : a9) (x10 : a10) (x11 : a11) (x12 : a12) (x13 : a13) (x14 : a14) (x15 : a15) (x16 : a16) (x17 : a17) (x18 : a18) (x19 : a19) (x20 : a20) (x21 : a21) (x22 : a22) (x23 : a23) (x24 : a24) (h0 : p0 x0 x1 x2 x3 x4 x5 x6 x7 x8 x9 x10 x11 x12 x13 x14 x15 x16 x17 x18 x19 x20 x21 x22 x23 x24) (h1 : p1 x0 x1 x2 x3 x4 x5 x6 x7 x8 x9 x10 x11 x12 x13 x14 x15 x16 x17 x18 x19 x20 x21 x22 x23 x24) : ShV25P2 p0 p1
inductive ShV2P4 {a0 a1 : Type} (p0 : a0 → a1 → Prop) (p1 : a0 → a1 → Prop) (p2 : a0 → a1 → Prop) (p3 : a0 → a1 → Prop) : Prop
  | mk (x0 : a0) (x1 : a1) (h0 : p0 x0 x1) (h1 : p1 x0 x1) (h2 : p2 x0 x1) (h3 : p3 x0 x1) : ShV2P4 p0 p1 p2 p3
inductive ShV2P5 {a0 a1 : Type} (p0 : a0 → a1 → Prop) (p1 : a0 → a1 → Prop) (p2 : a0 → a1 → Prop) (p3 : a0 → a1 → Prop) (p4 : a0 → a1 → Prop) : Prop
  | mk (x0 : a0) (x1 : a1) (h0 : p0 x0 x1) (h1 : p1 x0 x1) (h2 : p2 x0 x1) (h3 : p3 x0 x1) (h4 : p4 x0 x1) : ShV2P5 p0 p1 p2 p3 p4
inductive ShV3P2 {a0 a1 a2 : Type} (p0 : a0 → a1 → a2 → Prop) (p1 : a0 → a1 → a2 → Prop) : Prop
  | mk (x0 : a0) (x1 : a1) (x2 : a2) (h0 : p0 x0 x1 x2) (h1 : p1 x0 x1 x2) : ShV3P2 p0 p1
inductive ShV3P3 {a0 a1 a2 : Type} (p0 : a0 → a1 → a2 → Prop) (p1 : a0 → a1 → a2 → Prop) (p2 : a0 → a1 → a2 → Prop) : Prop
  | mk (x0 : a0) (x1 : a1) (x2 : a2) (h0 : p0 x0 x1 x2) (h1 : p1 x0 x1 x2) (h2 : p2 x0 x1 x2) : ShV3P3 p0 p1 p2
inductive ShV3P5 {a0 a1 a2 : Type} (p0 : a0 → a1 → a2 → Prop) (p1 : a0 → a1 → a2 → Prop) (p2 : a0 → a1 → a2 → Prop) (p3 : a0 → a1 → a2 → Prop) (p4 : a0 → a1 → a2 → Prop) : Prop
  | mk (x0 : a0) (x1 : a1) (x2 : a2) (h0 : p0 x0 x1 x2) (h1 : p1 x0 x1 x2) (h2 : p2 x0 x1 x2) (h3 : p3 x0 x1 x2) (h4 : p4 x0 x1 x2) : ShV3P5 p0 p1 p2 p3 p4
inductive ShV3P6 {a0 a1 a2 : Type} (p0 : a0 → a1 → a2 → Prop) (p1 : a0 → a1 → a2 → Prop) (p2 : a0 → a1 → a2 → Prop) (p3 : a0 → a1 → a2 → Prop) (p4 : a0 → a1 → a2 → Prop) (p5 : a0 → a1 → a2 → Prop) : Prop
  | mk (x0 : a0) (x1 : a1) (x2 : a2) (h0 : p0 x0 x1 x2) (h1 : p1 x0 x1 x2) (h2 : p2 x0 x1 x2) (h3 : p3 x0 x1 x2) (h4 : p4 x0 x1 x2) (h5 : p5 x0 x1 x2) : ShV3P6 p0 p1 p2 p3 p4 p5
inductive ShV3P8 {a0 a1 a2 : Type} (p0 : a0 → a1 → a2 → Prop) (p1 : a0 → a1 → a2 → Prop) (p2 : a0 → a1 → a2 → Prop) (p3 : a0 → a1 → a2 → Prop) (p4 : a0 → a1 → a2 → Prop) (p5 : a0 → a1 → a2 → Prop) (p6 : a0 → a1 → a2 → Prop) (p7 : a0 → a1 → a2 → Prop) : Prop
  | mk (x0 : a0) (x1 : a1) (x2 : a2) (h0 : p0 x0 x1 x2) (h1 : p1 x0 x1 x2) (h2 : p2 x0 x1 x2) (h3 : p3 x0 x1 x2) (h4 : p4 x0 x1 x2) (h5 : p5 x0 x1 x2) (h6 : p6 x0 x1 x2) (h7 : p7 x0 x1 x2) : ShV3P8 p0 p1 p2 p3 p4 p5 p6 p7
inductive ShV3P9 {a0 a1 a2 : Type} (p0 : a0 → a1 → a2 → Prop) (p1 : a0 → a1 → a2 → Prop) (p2 : a0 → a1 → a2 → Prop) (p3 : a0 → a1 → a2 → Prop) (p4 : a0 → a1 → a2 → Prop) (p5 : a0 → a1 → a2 → Prop) (p6 : a0 → a1 → a2 → Prop) (p7 : a0 → a1 → a2 → Prop) (p8 : a0 → a1 → a2 → Prop) : Prop
  | mk (x0 : a0) (x1 : a1) (x2 : a2) (h0 : p0 x0 x1 x2) (h1 : p1 x0 x1 x2) (h2 : p2 x0 x1 x2) (h3 : p3 x0 x1 x2) (h4 : p4 x0 x1 x2) (h5 : p5 x0 x1 x2) (h6 : p6 x0 x1 x2) (h7 : p7 x0 x1 x2) (h8 : p8 x0 x1 x2) : ShV3P9 p0 p1 p2 p3 p4 p5 p6 p7 p8
inductive ShV4P2 {a0 a1 a2 a3 : Type} (p0 : a0 → a1 → a2 → a3 → Prop) (p1 : a0 → a1 → a2 → a3 → Prop) : Prop
  | mk (x0 : a0) (x1 : a1) (x2 : a2) (x3 : a3) (h0 : p0 x0 x1 x2 x3) (h1 : p1 x0 x1 x2 x3) : ShV4P2 p0 p1
inductive ShV4P3 {a0 a1 a2 a3 : Type} (p0 : a0 → a1 → a2 → a3 → Prop) (p1 : a0 → a1 → a2 → a3 → Prop) (p2 : a0 → a1 → a2 → a3 → Prop) : Prop
  | mk (x0 : a0) (x1 : a1) (x2 : a2) (x3 : a3) (h0 : p0 x0 x1 x2 x3) (h1 : p1 x0 x1 x2 x3) (h2 : p2 x0 x1 x2 x3) : ShV4P3 p0 p1 p2
inductive ShV4P4 {a0 a1 a2 a3 : Type} (p0 : a0 → a1 → a2 → a3 → Prop) (p1 : a0 → a1 → a2 → a3 → Prop) (p2 : a0 → a1 → a2 → a3 → Prop) (p3 : a0 → a1 → a2 → a3 → Prop) : Prop
  | mk (x0 : a0) (x1 : a1) (x2 : a2) (x3 : a3) (h0 : p0 x0 x1 x2 x3) (h1 : p1 x0 x1 x2 x3) (h2 : p2 x0 x1 x2 x3) (h3 : p3 x0 x1 x2 x3) : ShV4P4 p0 p1 p2 p3
inductive ShV4P5 {a0 a1 a2 a3 : Type} (p0 : a0 → a1 → a2 → a3 → Prop) (p1 : a0 → a1 → a2 → a3 → Prop) (p2 : a0 → a1 → a2 → a3 → Prop) (p3 : a0 → a1 → a2 → a3 → Prop) (p4 : a0 → a1 → a2 → a3 → Prop) : Prop
  | mk (x0 : a0) (x1 : a1) (x2 : a2) (x3 : a3) (h0 : p0 x0 x1 x2 x3) (h1 : p1 x0 x1 x2 x3) (h2 : p2 x0 x1 x2 x3) (h3 : p3 x0 x1 x2 x3) (h4 : p4 x0 x1 x2 x3) : ShV4P5 p0 p1 p2 p3 p4
inductive ShV4P6 {a0 a1 a2 a3 : Type} (p0 : a0 → a1 → a2 → a3 → Prop) (p1 : a0 → a1 → a2 → a3 → Prop) (p2 : a0 → a1 → a2 → a3 → Prop) (p3 : a0 → a1 → a2 → a3 → Prop) (p4 : a0 → a1 → a2 → a3 → Prop) (p5 : a0 → a1 → a2 → a3 → Prop) : Prop
  | mk (x0 : a0) (x1 : a1) (x2 : a2) (x3 : a3) (h0 : p0 x0 x1 x2 x3) (h1 : p1 x0 x1 x2 x3) (h2 : p2 x0 x1 x2 x3) (h3 : p3 x0 x1 x2 x3) (h4 : p4 x0 x1 x2 x3) (h5 : p5 x0 x1 x2 x3) : ShV4P6 p0 p1 p2 p3 p4 p5
inductive ShV4P7 {a0 a1 a2 a3 : Type} (p0 : a0 → a1 → a2 → a3 → Prop) (p1 : a0 → a1 → a2 → a3 → Prop) (p2 : a0 → a1 → a2 → a3 → Prop) (p3 : a0 → a1 → a2 → a3 → Prop) (p4 : a0 → a1 → a2 → a3 → Prop) (p5 : a0 → a1 → a2 → a3 → Prop) (p6 : a0 → a1 → a2 → a3 → Prop) : Prop
  | mk (x0 : a0) (x1 : a1) (x2 : a2) (x3 : a3) (h0 : p0 x0 x1 x2 x3) (h1 : p1 x0 x1 x2 x3) (h2 : p2 x0 x1 x2 x3) (h3 : p3 x0 x1 x2 x3) (h4 : p4 x0 x1 x2 x3) (h5 : p5 x0 x1 x2 x3) (h6 : p6 x0 x1 x2 x3) : ShV4P7 p0 p1 p2 p3 p4 p5 p6
inductive ShV5P12 {a0 a1 a2 a3 a4 : Type} (p0 : a0 → a1 → a2 → a3 → a4 → Prop) (p1 : a0 → a1 → a2 → a3 → a4 → Prop) (p2 : a0 → a1 → a2 → a3 → a4 → Prop) (p3 : a0 → a1 → a2 → a3 → a4 → Prop) (p4 : a0 → a1 → a2 → a3 → a4 → Prop) (p5 : a0 → a1 → a2 → a3 → a4 → Prop) (p6 : a0 → a1 → a2 → a3 → a4 → Prop) (p7 : a0 → a1 → a2 → a3 → a4 → Prop) (p8 : a0 → a1 → a2 → a3 → a4 → Prop) (p9 : a0 → a1 → a2 → a3 → a4 → Prop) (p10 : a0 → a1 → a2 → a3 → a4 → Prop) (p11 : a0 → a1 → a2 → a3 → a4 → Prop) : Prop
  | mk (x0 : a0) (x1 : a1) (x2 : a2) (x3 : a3) (x4 : a4) (h0 : p0 x0 x1 x2 x3 x4) (h1 : p1 x0 x1 x2 x3 x4) (h2 : p2 x0 x1 x2 x3 x4) (h3 : p3 x0 x1 x2 x3 x4) (h4 : p4 x0 x1 x2 x3 x4) (h5 : p5 x0 x1 x2 x3 x4) (h6 : p6 x0 x1 x2 x3 x4) (h7 : p7 x0 x1 x2 x3 x4) (h8 : p8 x0 x1 x2 x3 x4) (h9 : p9 x0 x1 x2 x3 x4) (h10 : p10 x0 x1 x2 x3 x4) (h11 : p11 x0 x1 x2 x3 x4) : ShV5P12 p0 p1 p2 p3 p4 p5 p6 p7 p8 p9 p10 p11
inductive ShV5P3 {a0 a1 a2 a3 a4 : Type} (p0 : a0 → a1 → a2 → a3 → a4 → Prop) (p1 : a0 → a1 → a2 → a3 → a4 → Prop) (p2 : a0 → a1 → a2 → a3 → a4 → Prop) : Prop
  | mk (x0 : a0) (x1 : a1) (x2 : a2) (x3 : a3) (x4 : a4) (h0 : p0 x0 x1 x2 x3 x4) (h1 : p1 x0 x1 x2 x3 x4) (h2 : p2 x0 x1 x2 x3 x4) : ShV5P3 p0 p1 p2
inductive ShV5P3V1P4 {a0 a1 a2 a3 a4 a5 : Type} (p0 : a0 → a1 → a2 → a3 → a4 → Prop) (p1 : a0 → a1 → a2 → a3 → a4 → Prop) (p2 : a0 → a1 → a2 → a3 → a4 → Prop) (p3 : a0 → a1 → a2 → a3 → a4 → a5 → Prop) (p4 : a0 → a1 → a2 → a3 → a4 → a5 → Prop) (p5 : a0 → a1 → a2 → a3 → a4 → a5 → Prop) (p6 : a0 → a1 → a2 → a3 → a4 → a5 → Prop) : Prop
  | mk (x0 : a0) (x1 : a1) (x2 : a2) (x3 : a3) (x4 : a4) (h0 : p0 x0 x1 x2 x3 x4) (h1 : p1 x0 x1 x2 x3 x4) (h2 : p2 x0 x1 x2 x3 x4) (x5 : a5) (h3 : p3 x0 x1 x2 x3 x4 x5) (h4 : p4 x0 x1 x2 x3 x4 x5) (h5 : p5 x0 x1 x2 x3 x4 x5) (h6 : p6 x0 x1 x2 x3 x4 x5) : ShV5P3V1P4 p0 p1 p2 p3 p4 p5 p6
inductive ShV5P4V1P4 {a0 a1 a2 a3 a4 a5 : Type} (p0 : a0 → a1 → a2 → a3 → a4 → Prop) (p1 : a0 → a1 → a2 → a3 → a4 → Prop) (p2 : a0 → a1 → a2 → a3 → a4 → Prop) (p3 : a0 → a1 → a2 → a3 → a4 → Prop) (p4 : a0 → a1 → a2 → a3 → a4 → a5 → Prop) (p5 : a0 → a1 → a2 → a3 → a4 → a5 → Prop) (p6 : a0 → a1 → a2 → a3 → a4 → a5 → Prop) (p7 : a0 → a1 → a2 → a3 → a4 → a5 → Prop) : Prop
  | mk (x0 : a0) (x1 : a1) (x2 : a2) (x3 : a3) (x4 : a4) (h0 : p0 x0 x1 x2 x3 x4) (h1 : p1 x0 x1 x2 x3 x4) (h2 : p2 x0 x1 x2 x3 x4) (h3 : p3 x0 x1 x2 x3 x4) (x5 : a5) (h4 : p4 x0 x1 x2 x3 x4 x5) (h5 : p5 x0 x1 x2 x3 x4 x5) (h6 : p6 x0 x1 x2 x3 x4 x5) (h7 : p7 x0 x1 x2 x3 x4 x5) : ShV5P4V1P4 p0 p1 p2 p3 p4 p5 p6 p7
inductive ShV5P5 {a0 a1 a2 a3 a4 : Type} (p0 : a0 → a1 → a2 → a3 → a4 → Prop) (p1 : a0 → a1 → a2 → a3 → a4 → Prop) (p2 : a0 → a1 → a2 → a3 → a4 → Prop) (p3 : a0 → a1 → a2 → a3 → a4 → Prop) (p4 : a0 → a1 → a2 → a3 → a4 → Prop) : Prop
  | mk (x0 : a0) (x1 : a1) (x2 : a2) (x3 : a3) (x4 : a4) (h0 : p0 x0 x1 x2 x3 x4) (h1 : p1 x0 x1 x2 x3 x4) (h2 : p2 x0 x1 x2 x3 x4) (h3 : p3 x0 x1 x2 x3 x4) (h4 : p4 x0 x1 x2 x3 x4) : ShV5P5 p0 p1 p2 p3 p4
inductive ShV5P8 {a0 a1 a2 a3 a4 : Type} (p0 : a0 → a1 → a2 → a3 → a4 → Prop) (p1 : a0 → a1 → a2 → a3 → a4 → Prop) (p2 : a0 → a1 → a2 → a3 → a4 → Prop) (p3 : a0 → a1 → a2 → a3 → a4 → Prop) (p4 : a0 → a1 → a2 → a3 → a4 → Prop) (p5 : a0 → a1 → a2 → a3 → a4 → Prop) (p6 : a0 → a1 → a2 → a3 → a4 → Prop) (p7 : a0 → a1 → a2 → a3 → a4 → Prop) : Prop
  | mk (x0 : a0) (x1 : a1) (x2 : a2) (x3 : a3) (x4 : a4) (h0 : p0 x0 x1 x2 x3 x4) (h1 : p1 x0 x1 x2 x3 x4) (h2 : p2 x0 x1 x2 x3 x4) (h3 : p3 x0 x1 x2 x3 x4) (h4 : p4 x0 x1 x2 x3 x4) (h5 : p5 x0 x1 x2 x3 x4) (h6 : p6 x0 x1 x2 x3 x4) (h7 : p7 x0 x1 x2 x3 x4) : ShV5P8 p0 p1 p2 p3 p4 p5 p6 p7
inductive ShV6P10 {a0 a1 a2 a3 a4 a5 : Type} (p0 : a0 → a1 → a2 → a3 → a4 → a5 → Prop) (p1 : a0 → a1 → a2 → a3 → a4 → a5 → Prop) (p2 : a0 → a1 → a2 → a3 → a4 → a5 → Prop) (p3 : a0 → a1 → a2 → a3 → a4 → a5 → Prop) (p4 : a0 → a1 → a2 → a3 → a4 → a5 → Prop) (p5 : a0 → a1 → a2 → a3 → a4 → a5 → Prop) (p6 : a0 → a1 → a2 → a3 → a4 → a5 → Prop) (p7 : a0 → a1 → a2 → a3 → a4 → a5 → Prop) (p8 : a0 → a1 → a2 → a3 → a4 → a5 → Prop) (p9 : a0 → a1 → a2 → a3 → a4 → a5 → Prop) : Prop
  | mk (x0 : a0) (x1 : a1) (x2 : a2) (x3 : a3) (x4 : a4) (x5 : a5) (h0 : p0 x0 x1 x2 x3 x4 x5) (h1 : p1 x0 x1 x2 x3 x4 x5) (h2 : p2 x0 x1 x2 x3 x4 x5) (h3 : p3 x0 x1 x2 x3 x4 x5) (h4 : p4 x0 x1 x2 x3 x4 x5) (h5 : p5 x0 x1 x2 x3 x4 x5) (h6 : p6 x0 x1 x2 x3 x4 x5) (h7 : p7 x0 x1 x2 x3 x4 x5) (h8 : p8 x0 x1 x2 x3 x4 x5) (h9 : p9 x0 x1 x2 x3 x4 x5) : ShV6P10 p0 p1 p2 p3 p4 p5 p6 p7 p8 p9
inductive ShV6P11 {a0 a1 a2 a3 a4 a5 : Type} (p0 : a0 → a1 → a2 → a3 → a4 → a5 → Prop) (p1 : a0 → a1 → a2 → a3 → a4 → a5 → Prop) (p2 : a0 → a1 → a2 → a3 → a4 → a5 → Prop) (p3 : a0 → a1 → a2 → a3 → a4 → a5 → Prop) (p4 : a0 → a1 → a2 → a3 → a4 → a5 → Prop) (p5 : a0 → a1 → a2 → a3 → a4 → a5 → Prop) (p6 : a0 → a1 → a2 → a3 → a4 → a5 → Prop) (p7 : a0 → a1 → a2 → a3 → a4 → a5 → Prop) (p8 : a0 → a1 → a2 → a3 → a4 → a5 → Prop) (p9 : a0 → a1 → a2 → a3 → a4 → a5 → Prop) (p10 : a0 → a1 → a2 → a3 → a4 → a5 → Prop) : Prop
  | mk (x0 : a0) (x1 : a1) (x2 : a2) (x3 : a3) (x4 : a4) (x5 : a5) (h0 : p0 x0 x1 x2 x3 x4 x5) (h1 : p1 x0 x1 x2 x3 x4 x5) (h2 : p2 x0 x1 x2 x3 x4 x5) (h3 : p3 x0 x1 x2 x3 x4 x5) (h4 : p4 x0 x1 x2 x3 x4 x5) (h5 : p5 x0 x1 x2 x3 x4 x5) (h6 : p6 x0 x1 x2 x3 x4 x5) (h7 : p7 x0 x1 x2 x3 x4 x5) (h8 : p8 x0 x1 x2 x3 x4 x5) (h9 : p9 x0 x1 x2 x3 x4 x5) (h10 : p10 x0 x1 x2 x3 x4 x5) : ShV6P11 p0 p1 p2 p3 p4 p5 p6 p7 p8 p9 p10
inductive ShV6P3 {a0 a1 a2 a3 a4 a5 : Type} (p0 : a0 → a1 → a2 → a3 → a4 → a5 → Prop) (p1 : a0 → a1 → a2 → a3 → a4 → a5 → Prop) (p2 : a0 → a1 → a2 → a3 → a4 → a5 → Prop) : Prop
  | mk (x0 : a0) (x1 : a1) (x2 : a2) (x3 : a3) (x4 : a4) (x5 : a5) (h0 : p0 x0 x1 x2 x3 x4 x5) (h1 : p1 x0 x1 x2 x3 x4 x5) (h2 : p2 x0 x1 x2 x3 x4 x5) : ShV6P3 p0 p1 p2
inductive ShV6P5 {a0 a1 a2 a3 a4 a5 : Type} (p0 : a0 → a1 → a2 → a3 → a4 → a5 → Prop) (p1 : a0 → a1 → a2 → a3 → a4 → a5 → Prop) (p2 : a0 → a1 → a2 → a3 → a4 → a5 → Prop) (p3 : a0 → a1 → a2 → a3 → a4 → a5 → Prop) (p4 : a0 → a1 → a2 → a3 → a4 → a5 → Prop) : Prop
  | mk (x0 : a0) (x1 : a1) (x2 : a2) (x3 : a3) (x4 : a4) (x5 : a5) (h0 : p0 x0 x1 x2 x3 x4 x5) (h1 : p1 x0 x1 x2 x3 x4 x5) (h2 : p2 x0 x1 x2 x3 x4 x5) (h3 : p3 x0 x1 x2 x3 x4 x5) (h4 : p4 x0 x1 x2 x3 x4 x5) : ShV6P5 p0 p1 p2 p3 p4
inductive ShV6P8 {a0 a1 a2 a3 a4 a5 : Type} (p0 : a0 → a1 → a2 → a3 → a4 → a5 → Prop) (p1 : a0 → a1 → a2 → a3 → a4 → a5 → Prop) (p2 : a0 → a1 → a2 → a3 → a4 → a5 → Prop) (p3 : a0 → a1 → a2 → a3 → a4 → a5 → Prop) (p4 : a0 → a1 → a2 → a3 → a4 → a5 → Prop) (p5 : a0 → a1 → a2 → a3 → a4 → a5 → Prop) (p6 : a0 → a1 → a2 → a3 → a4 → a5 → Prop) (p7 : a0 → a1 → a2 → a3 → a4 → a5 → Prop) : Prop
  | mk (x0 : a0) (x1 : a1) (x2 : a2) (x3 : a3) (x4 : a4) (x5 : a5) (h0 : p0 x0 x1 x2 x3 x4 x5) (h1 : p1 x0 x1 x2 x3 x4 x5) (h2 : p2 x0 x1 x2 x3 x4 x5) (h3 : p3 x0 x1 x2 x3 x4 x5) (h4 : p4 x0 x1 x2 x3 x4 x5) (h5 : p5 x0 x1 x2 x3 x4 x5) (h6 : p6 x0 x1 x2 x3 x4 x5) (h7 : p7 x0 x1 x2 x3 x4 x5) : ShV6P8 p0 p1 p2 p3 p4 p5 p6 p7
inductive ShV7P12 {a0 a1 a2 a3 a4 a5 a6 : Type} (p0 : a0 → a1 → a2 → a3 → a4 → a5 → a6 → Prop) (p1 : a0 → a1 → a2 → a3 → a4 → a5 → a6 → Prop) (p2 : a0 → a1 → a2 → a3 → a4 → a5 → a6 → Prop) (p3 : a0 → a1 → a2 → a3 → a4 → a5 → a6 → Prop) (p4 : a0 → a1 → a2 → a3 → a4 → a5 → a6 → Prop) (p5 : a0 → a1 → a2 → a3 → a4 → a5 → a6 → Prop) (p6 : a0 → a1 → a2 → a3 → a4 → a5 → a6 → Prop) (p7 : a0 → a1 → a2 → a3 → a4 → a5 → a6 → Prop) (p8 : a0 → a1 → a2 → a3 → a4 → a5 → a6 → Prop) (p9 : a0 → a1 → a2 → a3 → a4 → a5 → a6 → Prop) (p10 : a0 → a1 → a2 → a3 → a4 → a5 → a6 → Prop) (p11 : a0 → a1 → a2 → a3 → a4 → a5 → a6 → Prop) : Prop
  | mk (x0 : a0) (x1 : a1) (x2 : a2) (x3 : a3) (x4 : a4) (x5 : a5) (x6 : a6) (h0 : p0 x0 x1 x2 x3 x4 x5 x6) (h1 : p1 x0 x1 x2 x3 x4 x5 x6) (h2 : p2 x0 x1 x2 x3 x4 x5 x6) (h3 : p3 x0 x1 x2 x3 x4 x5 x6) (h4 : p4 x0 x1 x2 x3 x4 x5 x6) (h5 : p5 x0 x1 x2 x3 x4 x5 x6) (h6 : p6 x0 x1 x2 x3 x4 x5 x6) (h7 : p7 x0 x1 x2 x3 x4 x5 x6) (h8 : p8 x0 x1 x2 x3 x4 x5 x6) (h9 : p9 x0 x1 x2 x3 x4 x5 x6) (h10 : p10 x0 x1 x2 x3 x4 x5 x6) (h11 : p11 x0 x1 x2 x3 x4 x5 x6) : ShV7P12 p0 p1 p2 p3 p4 p5 p6 p7 p8 p9 p10 p11
inductive ShV7P5 {a0 a1 a2 a3 a4 a5 a6 : Type} (p0 : a0 → a1 → a2 → a3 → a4 → a5 → a6 → Prop) (p1 : a0 → a1 → a2 → a3 → a4 → a5 → a6 → Prop) (p2 : a0 → a1 → a2 → a3 → a4 → a5 → a6 → Prop) (p3 : a0 → a1 → a2 → a3 → a4 → a5 → a6 → Prop) (p4 : a0 → a1 → a2 → a3 → a4 → a5 → a6 → Prop) : Prop
  | mk (x0 : a0) (x1 : a1) (x2 : a2) (x3 : a3) (x4 : a4) (x5 : a5) (x6 : a6) (h0 : p0 x0 x1 x2 x3 x4 x5 x6) (h1 : p1 x0 x1 x2 x3 x4 x5 x6) (h2 : p2 x0 x1 x2 x3 x4 x5 x6) (h3 : p3 x0 x1 x2 x3 x4 x5 x6) (h4 : p4 x0 x1 x2 x3 x4 x5 x6) : ShV7P5 p0 p1 p2 p3 p4
inductive ShV8P10 {a0 a1 a2 a3 a4 a5 a6 a7 : Type} (p0 : a0 → a1 → a2 → a3 → a4 → a5 → a6 → a7 → Prop) (p1 : a0 → a1 → a2 → a3 → a4 → a5 → a6 → a7 → Prop) (p2 : a0 → a1 → a2 → a3 → a4 → a5 → a6 → a7 → Prop) (p3 : a0 → a1 → a2 → a3 → a4 → a5 → a6 → a7 → Prop) (p4 : a0 → a1 → a2 → a3 → a4 → a5 → a6 → a7 → Prop) (p5 : a0 → a1 → a2 → a3 → a4 → a5 → a6 → a7 → Prop) (p6 : a0 → a1 → a2 → a3 → a4 → a5 → a6 → a7 → Prop) (p7 : a0 → a1 → a2 → a3 → a4 → a5 → a6 → a7 → Prop) (p8 : a0 → a1 → a2 → a3 → a4 → a5 → a6 → a7 → Prop) (p9 : a0 → a1 → a2 → a3 → a4 → a5 → a6 → a7 → Prop) : Prop
  | mk (x0 : a0) (x1 : a1) (x2 : a2) (x3 : a3) (x4 : a4) (x5 : a5) (x6 : a6) (x7 : a7) (h0 : p0 x0 x1 x2 x3 x4 x5 x6 x7) (h1 : p1 x0 x1 x2 x3 x4 x5 x6 x7) (h2 : p2 x0 x1 x2 x3 x4 x5 x6 x7) (h3 : p3 x0 x1 x2 x3 x4 x5 x6 x7) (h4 : p4 x0 x1 x2 x3 x4 x5 x6 x7) (h5 : p5 x0 x1 x2 x3 x4 x5 x6 x7) (h6 : p6 x0 x1 x2 x3 x4 x5 x6 x7) (h7 : p7 x0 x1 x2 x3 x4 x5 x6 x7) (h8 : p8 x0 x1 x2 x3 x4 x5 x6 x7) (h9 : p9 x0 x1 x2 x3 x4 x5 x6 x7) : ShV8P10 p0 p1 p2 p3 p4 p5 p6 p7 p8 p9

abbrev prg : Program := PySem.Challenge.rw_ok0119_01.row.prog
abbrev LS : List Str := [Str.ofString "ToolError", Str.ofString "endings", Str.ofString "Scanner", Str.ofString "CharSet", Str.ofString "Classes", Str.ofString "_law_NUMBERS"]
abbrev tupOf (vs : List Value) (n : Nat) : Obj := { cls := .type "tuple", data := .seq vs.toArray n }
/-- the statements of the k-th def of the text -/
def bodyAt (k : Nat) (l : List Stmt) : List Stmt := match l.drop k with | .FunctionDef _ _ b .. :: _ => b | _ => []
def scopeAt (k : Nat) (l : List Stmt) : Scope := match l.drop k with | .FunctionDef _ _ _ _ _ _ sc .. :: _ => sc | _ => default
def paramsAt (k : Nat) (l : List Stmt) : Arguments := match l.drop k with | .FunctionDef _ a .. :: _ => a | _ => default
def tkIn : List Stmt := bodyAt 29 PySem.Challenge.pw_ok0119_01.main.body
def tkBody : List Stmt := bodyAt 3 tkIn
def tkScope : Scope := scopeAt 3 tkIn
def tkParams : Arguments := paramsAt 3 tkIn
theorem fill (w : World) (h : Heap) : (hd.heap_1 w.params).In h → prg = PySem.Challenge.rw_ok0119_01.row.prog := by
  k_fill
  intro _
  rfl
section
local macro_rules | `(tactic| walk_at $s:str) => `(tactic| k_extra $s)
local macro_rules | `(tactic| wtm_at $s:str) => `(tactic| k_extra $s)
theorem linesS : True := by
  w_top off
  k_with_none
  k_with "k:k1" => ((first | (k_unfold; (try dsimp only)) | (k_end; wrow_close) | walk1 | (dsimp only; walk1) | (leave1; walk_say "STEP leave1"; try dsimp only) | fail "no step"))
  k_with "k:mem" => (first | exact List.mem_cons_self | ktr_member | (refine List.mem_cons_of_mem _ ?_; wtm_at "k:mem"))
  k_with "eval Name" => ((k_here; (with_reducible show wpAny _ _ (eval (Expr.Name _ _) (envX _ _ _ _ _ _)) _ _ _); k_dflt (first
  | (refine' nameX_F (by k_asm) (by rfl) (by k_mem) (by k_asm) ?_ (by rfl) (by rfl); k_whole)
  | (refine' nameX_C (by k_asm) (by rfl) (by k_mem) (by k_asm) ?_ (by rfl) (by rfl); k_whole)
  | (refine' nameX_L (by k_asm) (by rfl) ?_ (by rfl) (by rfl); k_whole)
  | (refine' nameX_K (by k_asm) (by k_asm) (by k_asm) (by k_is) ?_ (by rfl) (by rfl); k_whole)
  | (refine' nameX_B (by k_asm) (by k_asm) (by k_asm) (by k_is) (by boot_fast) (by decide) ?_ (by rfl) (by rfl); k_whole))))
  k_with "subscriptTail Name Constant ref int" => ((k_here; k_dflt (refine item0 (by k_asm) (by k_mem) ?_ (by intro _; with_unfolding_all rfl) (by with_unfolding_all rfl))))
  k_with "binaryOp Pow int int" => ((refine pow_int (fd_nonneg (by assumption) (by omega)) (pow_room (by assumption) (by assumption) (by omega)) ?_))
  k_with "binaryOp FloorDiv int int" => ((k_dflt (refine floordiv_int (pow_pos') ?_ (Or.inr (PylongRoom.of ((Top.nolimit (by assumption)).keeps (Fr.keep (by assumption))) (pyl_room (by assumption)))))))
  k_with "binaryOp Mult int int" => ((k_dflt (refine mul_int ?_ (mul_room (by assumption) (by assumption) (by omega) _))))
  trivial

local macro_rules | `(tactic| k_mem) => `(tactic| wtm_at "k:mem")
local macro_rules | `(tactic| is_list) => `(tactic| exact News.isList (by k_asm) (by k_mem))
theorem item0 {prog : Program} {w : World} {A : Around} {E : Value → Shared → Prop} {s : Shared} {h₀ : Heap} {L l : Addr} {news : List (Addr × Obj)} {v : Value} {n u : Nat} {value slice : PySem.Expr} {Q : Value → Shared → Prop}
    (N : News h₀ L s.heap news) (hm : (l, listOf #[v] n) ∈ news) (h : Q v s) (hg : ∀ r, letTemporaryGo value (.ref l) r = pure ()) (hs : subscripted slice false (.ref l) (.int 0 u) = operate [.ref l, .int 0 u] (getItem (.ref l) (.int 0 u))) :
    wpAny (model prog w) A (subscriptTail value slice (.ref l) (.int 0 u)) Q E s := item_list (News.isList N hm) (by decide) (by decide) (by rfl) h hs hg
theorem pyl_room {dp un : Nat} {gd : Option (List Code)} {cn : Str} {cs : Scope} {L a : Addr} {ccd : Value} {cl : List (Str × Addr)} {outer : List Env} {env : Env} (h : dp + 200 < recursionLimit) :
    ((ktrTop dp un gd cn cs L a ccd cl outer).deeper env).depth + Builtin.pylongFrames < recursionLimit := by
  show dp + 1 + 100 < recursionLimit
  omega
theorem fd_nonneg {k n : Int} (hk : 0 ≤ k) (hn : 0 < n) : 0 ≤ k.fdiv n := by
  rw [Int.fdiv_eq_ediv_of_nonneg _ (Int.le_of_lt hn)]; exact Int.ediv_nonneg hk (Int.le_of_lt hn)
theorem fd_le {k n : Int} (hk : 0 ≤ k) (hn : 0 < n) : k.fdiv n ≤ k := by
  rw [Int.fdiv_eq_ediv_of_nonneg _ (Int.le_of_lt hn)]; exact Int.ediv_le_self _ hk
theorem pow_room {k n : Int} (h0 : 0 ≤ k) (h1 : k ≤ 500) (hn : 0 < n) : (Builtin.Int.intBits 720720 : Int) * k.fdiv n ≤ 2 ^ 27 := by
  have a := fd_nonneg h0 hn
  have b := fd_le h0 hn
  have c : (Builtin.Int.intBits 720720 : Int) = 20 := by decide +kernel
  rw [c]; omega
theorem pow_pos' {m : Nat} : (720720 : Int) ^ m ≠ 0 := by
  have : (0 : Int) < 720720 ^ m := Int.pow_pos (by decide)
  omega
theorem mul_room {k n : Int} (h0 : 0 ≤ k) (h1 : k ≤ 500) (hn : 0 < n) (b : Int) : IntMulOk (k.fdiv n) b := by
  have a := fd_nonneg h0 hn
  have b := fd_le h0 hn
  exact IntMulOk.of_left (intBits_le_64 (by omega) (by omega))
local macro_rules | `(tactic| k_all) => `(tactic| assumption)
local macro_rules | `(tactic| k_room) => `(tactic| ktr_room)

/-- what stands of the taker: its closure, its cells, and the list of one int apart -/
structure TakeIn (l : List (Addr × Obj)) (v : Value) (pl : Addr) : Prop where
  at_ : ShV17P13 (fun f qual dc pm c' ctv cc pc lc oc vs tq o1 o2 n ws ns => v = .ref f) (fun f qual dc pm c' ctv cc pc lc oc vs tq o1 o2 n ws ns => (f, fnMade (Str.ofString "take") qual tkParams tkBody tkScope [(Str.ofString "place", pc), (Str.ofString "cells", cc)] dc pm c' ctv) ∈ l) (fun f qual dc pm c' ctv cc pc lc oc vs tq o1 o2 n ws ns => (c', oc) ∈ l) (fun f qual dc pm c' ctv cc pc lc oc vs tq o1 o2 n ws ns => oc.data = .fields vs) (fun f qual dc pm c' ctv cc pc lc oc vs tq o1 o2 n ws ns => vs[1]? = some (.str qual tq)) (fun f qual dc pm c' ctv cc pc lc oc vs tq o1 o2 n ws ns => (cc, o1) ∈ l) (fun f qual dc pm c' ctv cc pc lc oc vs tq o1 o2 n ws ns => o1.data = .cell (some (.ref lc))) (fun f qual dc pm c' ctv cc pc lc oc vs tq o1 o2 n ws ns => (pc, o2) ∈ l) (fun f qual dc pm c' ctv cc pc lc oc vs tq o1 o2 n ws ns => o2.data = .cell (some (.ref pl))) (fun f qual dc pm c' ctv cc pc lc oc vs tq o1 o2 n ws ns => (lc, listOf (List.toArray ws) n) ∈ l) (fun f qual dc pm c' ctv cc pc lc oc vs tq o1 o2 n ws ns => IntsAre ws ns) (fun f qual dc pm c' ctv cc pc lc oc vs tq o1 o2 n ws ns => 0 < ns.length) (fun f qual dc pm c' ctv cc pc lc oc vs tq o1 o2 n ws ns => ns.length ≤ 63)

theorem take_spec {w : World} {dp un : Nat} {gd : Option (List Code)} {cn : Str} {cs : Scope} {a : Addr} {ccd : Value} {cl : List (Str × Addr)} {outer : List Env} {A₀ : Around} {base h₀ : Heap} {L : Addr} {m mg mb : Str → Option Value} {mean : ExcName → Option Value} {tP : Program} {tL : List Str}
    {news : List (Addr × Obj)} {s : Shared} {R : Result → Shared → Prop} {f pl : Addr} {k lim : Int} {tk t n : Nat}
    (B : Below A₀ base outer h₀) (F : Fr h₀ L s.heap m) (X : (hd.heap_1 w.params).In h₀) (N : News h₀ L s.heap ((pl, listOf #[.int k tk] n) :: news)) (T : Top tP tL mean mg mb h₀) (hk : cs.kind = .function) (Sr : h₀.NoSeer)
    (hdp : dp + 200 < recursionLimit) (hun : un + 400 < cLine) (I : TakeIn news (.ref f) pl) (off : ∀ p ∈ news, p.1 ≠ pl) (hk0 : 0 ≤ k) (hk1 : k ≤ 500) (hl0 : 0 < lim) (hl1 : lim ≤ 100)
    (ret : ∀ r t tk' h' tks, 0 ≤ r → r < lim → Fr h₀ L h' m → News h₀ L h' ((pl, listOf #[.int (k + 1) tk'] n) :: news) → R (.ok (.ret (.int r t))) { s with heap := h', toks := tks }) :
    codeAny (model prg w) (ktrTop dp un gd cn cs L a ccd cl outer) (.call (.ref f) ⟨[.int lim t], []⟩) R s := by
  obtain ⟨f', qual, dc, pm, c', ctv, cc, pc, lc, oc, vs, tq, o1, o2, nn, ws, ns, e1, i1, i2, i3, i4, i5, i6, i7, i8, i9, i10, i11, i12⟩ := I.at_
  cases e1
  generalize hsc : tkScope = sc at i1
  conv at hsc => lhs; whnf
  generalize hbo : tkBody = bo at i1
  conv at hbo => lhs; whnf
  generalize hpa : tkParams = pa at i1
  conv at hpa => lhs; whnf
  subst hsc hbo hpa
  refine code_nest B F X N T rfl rfl hk (List.mem_cons_of_mem _ i1) (codeRec_news N (List.mem_cons_of_mem _ i2) i3 i4) (by ktr_room) (BindsTo.of_eq (binds := [(Str.ofString "limit", .int lim t)]) rfl) (locs rfl) ?_ rfl rfl rfl (by decide)
  intro g' L' h' FG' F' N' B' X' T'
  have Sr' : g'.NoSeer := Sr.keeps FG'.keep
  try k_fold
  k_steps
  all_goals exact ret _ _ _ _ _ (fmod_lo _ (by omega)) (fmod_hi _ (by omega)) (by assumption) (by assumption)
end
section

open PyProof.Rows.LCg PyProof.Rows.LCt
abbrev Led := List (Addr × Obj)
/-- a premise that the walk does not open -/
def Hold (p : Prop) : Prop := p

/-- an iterator that stands at I -/
structure ItOk (prog : Program) (w : World) (A : Around) (h₀ : Heap) (L I : Addr) (fp : List Addr) (n : Nat) (P : Nat → Value → Prop) (St : Nat → Heap → Prop) (S : Led → Prop) : Prop where
  W : Walks prog w A I fp [I] n P St
  io : ∀ i h, St i h → ∃ o, h.get? I = some o
  st : ∀ i h h' o nw, St i h → h.get? I = some o → h'.get? I = some o → (∀ b o, h₀.get? b = some o → h'.get? b = some o) → News h₀ L h' nw → S nw → St i h'

def Src (prog : Program) (w : World) (A : Around) (h₀ : Heap) (L : Addr) (s₁ : Shared) (xv : Value) (n : Nat) (P : Nat → Value → Prop) (S : Led → Prop) : Prop :=
  ∀ (Q : Value → Shared → Prop) (E : Value → Shared → Prop), (∀ o fp St, ItOk prog w A h₀ L s₁.heap.objs.size fp n P St S → St 0 (s₁.heap.push o) → (∀ b ∈ fp, b ≤ s₁.heap.objs.size) →
    Q (.ref s₁.heap.objs.size) { s₁ with heap := s₁.heap.push o }) → wpAny (model prog w) A (pyIter xv) Q E s₁

section
variable {prog : Program} {w : World} {A : Around} {h₀ : Heap} {L : Addr} {m : Str → Option Value} {s₁ : Shared} {news : Led}
theorem Src.list {a : Addr} {vs : List Value} {k : Nat} (hh : A.handled = none) (N : News h₀ L s₁.heap news) (hm : (a, listOf vs.toArray k) ∈ news) :
    Src prog w A h₀ L s₁ (.ref a) vs.length (fun i v => vs[i]? = some v) (fun nw => (a, listOf vs.toArray k) ∈ nw) := by
  intro Q E hQ
  have hl := News.isList N hm
  have hlt : a < s₁.heap.objs.size := Heap.lt_size (N _ hm).1
  refine wpAny_pyIter_list hl ?_
  have W := Walks.list (prog := prog) (w := w) hh s₁.heap.objs.size a (Nat.ne_of_lt hlt) vs.toArray
  have hsz : vs.toArray.size = vs.length := by simp
  rw [hsz] at W
  have e : (fun (i : Nat) (v : Value) => vs.toArray[i]? = some v) = fun i v => vs[i]? = some v := by funext i v; simp
  rw [e] at W
  refine hQ _ _ _ ⟨W, fun i h st => by obtain ⟨o, e, _⟩ := st.1; exact ⟨o, e⟩, ?_⟩ ⟨⟨_, Heap.get?_push_size _ rfl, rfl, rfl⟩, hl.push _⟩ (fun b hb => ?_)
  · intro i h h' o nw st e e' _ N' S
    exact ⟨by obtain ⟨o', q, r⟩ := st.1; rw [e] at q; cases q; exact ⟨o, e', r⟩, News.isList N' S⟩
  · rcases List.mem_cons.mp hb with rfl | hb
    · exact Nat.le_refl _
    · rw [List.mem_singleton.mp hb]; exact Nat.le_of_lt hlt
theorem Src.tup {a : Addr} {vs : List Value} {k : Nat} (hh : A.handled = none) (N : News h₀ L s₁.heap news) (hm : (a, tupOf vs k) ∈ news) :
    Src prog w A h₀ L s₁ (.ref a) vs.length (fun i v => vs[i]? = some v) (fun nw => (a, tupOf vs k) ∈ nw) := by
  intro Q E hQ
  have hl : s₁.heap.IsTuple a vs.toArray := News.isTup N hm
  have hlt : a < s₁.heap.objs.size := Heap.lt_size (N _ hm).1
  refine wpAny_pyIter_tuple hl ?_
  have W := Walks.tuple (prog := prog) (w := w) hh s₁.heap.objs.size a (Nat.ne_of_lt hlt) vs.toArray
  have hsz : vs.toArray.size = vs.length := by simp
  rw [hsz] at W
  have e : (fun (i : Nat) (v : Value) => vs.toArray[i]? = some v) = fun i v => vs[i]? = some v := by funext i v; simp
  rw [e] at W
  refine hQ _ _ _ ⟨W, fun i h st => by obtain ⟨o, e, _⟩ := st.1; exact ⟨o, e⟩, ?_⟩ ⟨⟨_, Heap.get?_push_size _ rfl, rfl, rfl⟩, IsTup.push hl _⟩ (fun b hb => ?_)
  · intro i h h' o nw st e e' _ N' S
    exact ⟨by obtain ⟨o', q, r⟩ := st.1; rw [e] at q; cases q; exact ⟨o, e', r⟩, News.isTup N' S⟩
  · rcases List.mem_cons.mp hb with rfl | hb
    · exact Nat.le_refl _
    · rw [List.mem_singleton.mp hb]; exact Nat.le_of_lt hlt
theorem Src.range {r : Addr} {a b : Int} {t u v : Tok} {n : Nat} (hh : A.handled = none) (hr : IsRange s₁.heap r a b 1 t u v) (hsm : Builtin.Range.small a b 1 = true) (hn : Builtin.Range.rangeSize a b 1 = ((n : Nat) : Int)) :
    Src prog w A h₀ L s₁ (.ref r) n (fun i v => ∃ t, v = .int (a + (i : Int)) t) (fun _ => True) := by
  intro Q E hQ
  refine wpAny_pyIter_range hr hsm ?_
  refine hQ _ _ _ ⟨range_walks hh a n, fun i h st => ⟨_, st⟩, range_st⟩ (by show IsRangeIter _ _ _ _ _; rw [hn]; simpa using Heap.get?_push_size _ rfl) (fun b hb => by rw [List.mem_singleton.mp hb]; exact Nat.le_refl _)
theorem Src.str {x : Str} {t : Tok} (hh : A.handled = none) :
    Src prog w A h₀ L s₁ (.str x t) x.cps.size (SignAt x) (fun _ => True) := by
  intro Q E hQ
  have key : ∀ cls, (∀ (i : Nat) (h h' : Heap) (o : Obj) (nw : Led), h.IsStrIter s₁.heap.objs.size cls x t i → h.get? s₁.heap.objs.size = some o → h'.get? s₁.heap.objs.size = some o → (∀ b o, h₀.get? b = some o → h'.get? b = some o) → News h₀ L h' nw → True → h'.IsStrIter s₁.heap.objs.size cls x t i) := by
    intro cls i h h' o nw st e e' _ _ _
    obtain ⟨o', q, r⟩ := st
    rw [e] at q; cases q; exact ⟨o, e', r⟩
  cases ha : x.cps.all (· < 128)
  · exact wpAny_pyIter_wide ha (hQ _ _ _ ⟨Walks.strWide hh _ x t, fun i h st => by obtain ⟨o, e, _⟩ := st; exact ⟨o, e⟩, key _⟩ ⟨_, Heap.get?_push_size _ rfl, rfl, rfl⟩ (fun b hb => by rw [List.mem_singleton.mp hb]; exact Nat.le_refl _))
  · exact wpAny_pyIter_ascii ha (hQ _ _ _ ⟨Walks.strAscii hh _ x t, fun i h st => by obtain ⟨o, e, _⟩ := st; exact ⟨o, e⟩, key _⟩ ⟨_, Heap.get?_push_size _ rfl, rfl, rfl⟩ (fun b hb => by rw [List.mem_singleton.mp hb]; exact Nat.le_refl _))
theorem Src.keys {K : Type} [DecidableEq K] {knd : KeyKind prog w K} {d : Addr} {o : Obj} {kvs : List (K × Value)} (hh : A.handled = none) (N : News h₀ L s₁.heap news) (hm : (d, o) ∈ news) (hd : o.IsDictOf knd kvs) (lo : (d == sysModules) = false) :
    Src prog w A h₀ L s₁ (.ref d) kvs.length (fun i v => ∃ k x, kvs[i]? = some (k, x) ∧ knd.is k v = true) (fun nw => (d, o) ∈ nw) := by
  intro Q E hQ
  obtain ⟨es, ep, r⟩ := hd
  have hD : s₁.heap.DictAt knd d kvs ep := ⟨o, es, (N _ hm).1, r⟩
  have hlt : d < s₁.heap.objs.size := Heap.lt_size (N _ hm).1
  refine wpAny_pyIter_dict lo hD ?_
  refine hQ _ _ _ ⟨Walks.dictKeys hh s₁.heap.objs.size d (Nat.ne_of_lt hlt) kvs ep, fun i h st => by obtain ⟨o, e, _⟩ := st.1; exact ⟨o, e⟩, ?_⟩ ⟨⟨_, Heap.get?_push_size _ rfl, rfl, rfl⟩, hD.push _⟩ (fun b hb => ?_)
  · intro i h h' o' nw st e e' _ N' S
    exact ⟨by obtain ⟨o', q, r⟩ := st.1; rw [e] at q; cases q; exact ⟨_, e', r⟩, ⟨o, es, (N' _ S).1, r⟩⟩
  · rcases List.mem_cons.mp hb with rfl | hb
    · exact Nat.le_refl _
    · rw [List.mem_singleton.mp hb]; exact Nat.le_of_lt hlt
end

section
variable {prog : Program} {w : World} {A : Around} {h₀ : Heap} {L : Addr} {m : Str → Option Value} {s s₁ : Shared} {env : Env} {news : Led}

/-- a turn's end -/
def TurnEnd (h₀ : Heap) (L : Addr) (I : Addr) (oI : Obj) (J : (Str → Option Value) → Led → Prop) (s₁ : Shared) (Q : Flow → Shared → Prop) (f : Flow) (s₂ : Shared) : Prop :=
  match f with
  | .ret v => Q (.ret v) s₂
  | .brk => Q .next s₂
  | _ => ShV4P5 (fun h' tk m' nx => s₂ = { s₁ with heap := h', toks := tk }) (fun h' tk m' nx => Fr h₀ L h' m') (fun h' tk m' nx => News h₀ L h' ((I, oI) :: nx)) (fun h' tk m' nx => (∀ p ∈ nx, p.1 ≠ I)) (fun h' tk m' nx => J m' nx)

theorem for_core {R : Result → Shared → Prop} {target : PySem.Expr} {body : List Stmt} {I : Addr} {fp : List Addr} {n : Nat} {P : Nat → Value → Prop} {St : Nat → Heap → Prop} {S : Led → Prop}
    (K : ItOk prog w A h₀ env.locals I fp n P St S) (hgo : ∀ i (s' : Shared) v (Q' : Unit → Shared → Prop) (E' : Value → Shared → Prop), St i s'.heap → Q' () s' → wpAny (model prog w) A (letOwnedTupleGo target (.ref I) v) Q' E' s')
    (hI : env.locals ≠ I) (hI₀ : h₀.get? I = none) (off : ∀ p ∈ news, p.1 ≠ I) (hst : St 0 s.heap) (F : Fr h₀ env.locals s.heap m) (N : News h₀ env.locals s.heap news)
    (J : Nat → (Str → Option Value) → Led → Prop) (hJS : ∀ i m nx, J i m nx → S nx) (h0 : J 0 m news)
    (turn : ∀ i v m₁ nx oI h tk (E' : Value → Shared → Prop), i < n → P i v → J i m₁ nx → Fr h₀ env.locals h m₁ → News h₀ env.locals h ((I, oI) :: nx) → (∀ p ∈ nx, p.1 ≠ I) →
      wpAny (model prog w) A (assign target env v) (fun _ s' => wpAny (model prog w) A (execs body env) (TurnEnd h₀ env.locals I oI (J (i + 1)) { s with heap := h, toks := tk } (fun f s' => R (.ok f) s')) E' s') E' { s with heap := h, toks := tk })
    (hR : ∀ h' tk m' nx, Fr h₀ env.locals h' m' → News h₀ env.locals h' nx → J n m' nx → R (.ok .next) { s with heap := h', toks := tk }) :
    codeAny (model prog w) A (.forLoop target (.ref I) body [] env) R s := by
  refine codeAny_forLoop_any
    (fun k s' => ShV5P8 (fun h' tk m' nx i => s' = { s with heap := h', toks := tk }) (fun h' tk m' nx i => St i h') (fun h' tk m' nx i => Fr h₀ env.locals h' m') (fun h' tk m' nx i => News h₀ env.locals h' nx) (fun h' tk m' nx i => (∀ p ∈ nx, p.1 ≠ I)) (fun h' tk m' nx i => J i m' nx) (fun h' tk m' nx i => i ≤ n) (fun h' tk m' nx i => k = n + 1 - i)) ?_ (n + 1)
    ⟨s.heap, s.toks, m, news, 0, rfl, hst, F, N, off, h0, Nat.zero_le _, rfl⟩
  rintro k s' ⟨h', tk, m', nx, i, rfl, hst', F', N', off', hJ, hi, rfl⟩
  by_cases hlt : i < n
  · refine K.W.item i _ _ _ hlt hst' fun v h₁ tk₁ hP hst₁ hk₁ => ?_
    refine hgo (i + 1) _ v _ _ hst₁ ?_
    have F₁ := fr_but F' hk₁ hI hI₀
    have N₁ := news_but N' hk₁ off'
    obtain ⟨oI, heI⟩ := K.io _ _ hst₁
    have N₂ : News h₀ env.locals h₁ ((I, oI) :: nx) := fun p hp => by
      rcases List.mem_cons.mp hp with rfl | hp
      · exact ⟨heI, Ne.symm hI, hI₀⟩
      · exact N₁ p hp
    refine wpAny_mono (turn i v m' nx oI h₁ tk₁ _ hlt hP hJ F₁ N₂ off') (fun _ s₂ h₂ => wpAny_mono h₂ (fun f s₃ h₃ => ?_) fun _ _ e => e) fun _ _ e => e
    have fin : (ShV4P5 (fun h' tk m' nx => s₃ = { { s with heap := h₁, toks := tk₁ } with heap := h', toks := tk }) (fun h' tk m' nx => Fr h₀ env.locals h' m') (fun h' tk m' nx => News h₀ env.locals h' ((I, oI) :: nx)) (fun h' tk m' nx => (∀ p ∈ nx, p.1 ≠ I)) (fun h' tk m' nx => J (i + 1) m' nx)) →
        ∃ j, j < n + 1 - i ∧ (ShV5P8 (fun h' tk m' nx i => s₃ = { s with heap := h', toks := tk }) (fun h' tk m' nx i => St i h') (fun h' tk m' nx i => Fr h₀ env.locals h' m') (fun h' tk m' nx i => News h₀ env.locals h' nx) (fun h' tk m' nx i => (∀ p ∈ nx, p.1 ≠ I)) (fun h' tk m' nx i => J i m' nx) (fun h' tk m' nx i => i ≤ n) (fun h' tk m' nx i => j = n + 1 - i)) := by
      rintro ⟨h₃', tk₃, m₃, nx₃, rfl, F₃, N₃, off₃, hJ₃⟩
      have N₃' : News h₀ env.locals h₃' nx₃ := fun p hp => N₃ p (List.mem_cons_of_mem _ hp)
      exact ⟨n + 1 - (i + 1), by omega, h₃', tk₃, m₃, nx₃, i + 1, rfl, K.st _ _ _ _ _ hst₁ heI (N₃ _ List.mem_cons_self).1 F₃.keep N₃' (hJS _ _ _ hJ₃), F₃, N₃', off₃, hJ₃, hlt, rfl⟩
    cases f with
    | ret v => exact h₃
    | brk => exact h₃
    | cont => exact fin h₃
    | next => exact fin h₃
  · obtain rfl : i = n := Nat.le_antisymm hi (Nat.not_lt.mp hlt)
    refine K.W.done _ _ _ hst' fun h₁ tk₁ hk₁ => wpAny_execs_nil ?_
    exact hR h₁ tk₁ m' nx (fr_but F' hk₁ hI hI₀) (news_but N' hk₁ off') hJ

/-- a for over any source that is told -/
theorem for_src {E : Value → Shared → Prop} {Q : Flow → Shared → Prop} {x : Str} {px pos : Pos} {iter : PySem.Expr} {body : List Stmt} (hx : env.kindOf x = some .local)
    (hp : (env.scope.kind == .class || (env.scope.kind == .module && env.locals != env.globals)) = false)
    (h : wpAny (model prog w) A (eval iter env) (fun xv s₁ => Hold (ShV5P3V1P4 (fun n P S m news => Src prog w A h₀ env.locals s₁ xv n P S) (fun n P S m news => Fr h₀ env.locals s₁.heap m) (fun n P S m news => News h₀ env.locals s₁.heap news) (fun n P S m news (J : Nat → (Str → Option Value) → Led → Prop) => (∀ i m nx, J i m nx → S nx)) (fun n P S m news (J : Nat → (Str → Option Value) → Led → Prop) => J 0 m news) (fun n P S m news (J : Nat → (Str → Option Value) → Led → Prop) => (∀ i v m₁ nx I oI h tk (E' : Value → Shared → Prop), i < n → P i v → J i m₁ nx → Fr h₀ env.locals h (fun y => if y = x then some v else m₁ y) → News h₀ env.locals h ((I, oI) :: nx) → (∀ p ∈ nx, p.1 ≠ I) →
        wpAny (model prog w) A (execs body env) (TurnEnd h₀ env.locals I oI (J (i + 1)) { s₁ with heap := h, toks := tk } Q) E' { s₁ with heap := h, toks := tk })) (fun n P S m news (J : Nat → (Str → Option Value) → Led → Prop) => ∀ h' tk m' nx, Fr h₀ env.locals h' m' → News h₀ env.locals h' nx → J n m' nx → Q .next { s₁ with heap := h', toks := tk }))) E s)
    (hs : ∀ x, foldedSetIterable iter env x = pure x := by intro _; rfl) :
    wpAny (model prog w) A (exec (.For (.Name x px) iter body [] pos) env) Q E s := by
  refine wpAny_For (wpAny_mono h (fun xv s₁ h₁ => ?_) fun _ _ e => e) hs
  obtain ⟨n, P, S, m, news, hS, F, N, J, hJS, h0, turn, hR⟩ := h₁
  refine hS _ _ fun o fp St K hst hfp => ?_
  refine for_core K (fun _ _ _ _ _ _ hq => wpAny_pure hq) (Nat.ne_of_lt F.ns.lt) (next_is_new F) (fun p hp => Nat.ne_of_lt (Heap.lt_size (N p hp).1)) hst (F.push _) (N.grown fun _ _ e => Heap.get?_push_of_some _ e) J hJS h0 ?_ ?_
  · intro i v m₁ nx oI h tk E' hi hP hJ F₁ N₁ off₁
    have hLI : env.locals ≠ s₁.heap.objs.size := Nat.ne_of_lt F.ns.lt
    refine wpAny_assign_Name (wpAny_storeName_local hx F₁.ns (fun h₂ hn₂ hs₂ => ?_) hp)
    refine wpAny_mono (turn i v m₁ nx _ oI h₂ _ E' hi hP hJ (F₁.set hn₂ hs₂) (N₁.set hs₂) off₁) (fun f s₂ q => ?_) fun _ _ e => e
    cases f <;> exact q
  · intro h' tk m' nx F' N' hJ
    exact hR h' tk m' nx F' N' hJ

theorem rest_U {elt : PySem.Expr} {x : Str} {scope : Scope} {cl : List (Str × Addr)} {S : Led → Prop} {P : Nat → Value → Prop} {Fin : List Value → Led → Prop} {n : Nat} (J : Nat → List Value → Led → Prop) (hJS : ∀ i ys nx, J i ys nx → S nx)
    (turn : ∀ i v ys nx I oI C oC D m₂ h tk (E' : Value → Shared → Prop), i < n → P i v → J i ys nx → NsObj oC m₂ → m₂ x = some v → Fr h₀ L h m → News h₀ L h ((I, oI) :: (C, oC) :: (D, lst ys) :: nx) → Off3 I C D nx → ((@Ne Nat I C) ∧ (@Ne Nat I D) ∧ (@Ne Nat C D)) →
      wpAny (model prog w) A (eval elt (compEnvC scope cl C env)) (CompEnd h₀ L m { s with heap := h, toks := tk } I oI C oC D (lst ys) (fun _ => True) (fun y nx' => J (i + 1) (ys ++ [y]) nx')) E' { s with heap := h, toks := tk })
    (fin : ∀ ys nx, J n ys nx → Fin ys nx) : ∀ (j i : Nat) (ys : List Value) (nx : Led), i + j = n → J i ys nx → CompRest prog w A h₀ L m env elt x scope cl s S P Fin j i ys nx := by
  intro j
  induction j with
  | zero =>
    intro i ys nx e hJ
    obtain rfl : i = n := by omega
    exact fin ys nx hJ
  | succ j ih =>
    intro i ys nx e hJ
    intro v I oI C oC D m₂ h tk E' hP hC hx F N off ne
    refine wpAny_mono (turn i v ys nx I oI C oC D m₂ h tk E' (by omega) hP hJ hC hx F N off ne) (fun y s₂ hq => ?_) fun _ _ e => e
    obtain ⟨h', tk', nx', e', F', N', off', _, hj⟩ := hq
    exact ⟨h', tk', nx', e', F', N', off', hJS _ _ _ hj, ih _ _ _ (by omega) hj⟩

theorem comp_U {elt iter : PySem.Expr} {x : Str} {px : Pos} {scope : Scope} {cl : List (Str × Addr)} {pos : Pos} {E : Value → Shared → Prop} {Q : Value → Shared → Prop}
    (hclos : closureFor scope env = pure cl) (hcell : ∀ y ∈ scope.names, y.2 ≠ .cell) (hkind : scope.kind = .function)
    (hnames : ∀ y ∈ scope.names, y.2 = .local → scope.names.lookup y.1 = some .local) (hx : scope.names.lookup x = some .local)
    (h : wpAny (model prog w) A (eval iter env) (fun xv s₁ => Hold (ShV5P4V1P4 (fun n P S m news => Src prog w A h₀ L s₁ xv n P S) (fun n P S m news => n ≤ sizeLine) (fun n P S m news => Fr h₀ L s₁.heap m) (fun n P S m news => News h₀ L s₁.heap news) (fun n P S m news (J : Nat → List Value → Led → Prop) => (∀ i ys nx, J i ys nx → S nx)) (fun n P S m news (J : Nat → List Value → Led → Prop) => J 0 [] news) (fun n P S m news (J : Nat → List Value → Led → Prop) => (∀ i v ys nx I oI C oC D m₂ h tk (E' : Value → Shared → Prop), i < n → P i v → J i ys nx → NsObj oC m₂ → m₂ x = some v → Fr h₀ L h m → News h₀ L h ((I, oI) :: (C, oC) :: (D, lst ys) :: nx) → Off3 I C D nx → ((@Ne Nat I C) ∧ (@Ne Nat I D) ∧ (@Ne Nat C D)) →
        wpAny (model prog w) A (eval elt (compEnvC scope cl C env)) (CompEnd h₀ L m { s₁ with heap := h, toks := tk } I oI C oC D (lst ys) (fun _ => True) (fun y nx' => J (i + 1) (ys ++ [y]) nx')) E' { s₁ with heap := h, toks := tk })) (fun n P S m news (J : Nat → List Value → Led → Prop) => ∀ ys nx D h tk, J n ys nx → Fr h₀ L h m → News h₀ L h ((D, lst ys) :: nx) → Off1 D nx → Q (.ref D) { s₁ with heap := h, toks := tk }))) E s)
    (hs : ∀ x, foldedSetIterable iter env x = pure x := by intro _; rfl) :
    wpAny (model prog w) A (eval (.ListComp elt [⟨.Name x px, iter, [], 0⟩] scope pos) env) Q E s := by
  rw [eval_ListComp]
  refine wpAny_comprehension_free (use := none) rfl hs hclos hkind hnames (wpAny_mono h (fun xv s₁ h₁ => ?_) fun _ _ e => e)
  obtain ⟨n, P, S, m, news, hS, hsz, F, N, J, hJS, h0, turn, fin⟩ := h₁
  refine hS _ _ fun o fp St K hst hfp => ?_
  have up : ∀ b o', s₁.heap.get? b = some o' → (s₁.heap.push o).get? b = some o' := fun b o' e => Heap.get?_push_of_some _ e
  refine block_U (h₀ := h₀) (L := L) (m := m) (news := news) (S := S) (Fin := fun ys nx => J n ys nx) K.W hsz K.io K.st hcell hkind hx hst (fun b hb => ?_) (F.keeps up) (N.grown up) (Nat.ne_of_lt F.ns.lt) (next_is_new F) (fun p hp => Nat.ne_of_lt (Heap.lt_size (N p hp).1)) (hJS _ _ _ h0)
    (rest_U (s := { s₁ with heap := s₁.heap.push o }) J hJS (fun i v ys nx I oI C oC D m₂ h tk E' a1 a2 a3 a4 a5 a6 a7 a8 a9 => turn i v ys nx I oI C oC D m₂ h tk E' a1 a2 a3 a4 a5 a6 a7 a8 a9) (fun ys nx hj => hj) n 0 [] news (by omega) h0) ?_
  · show b < (s₁.heap.push o).objs.size
    rw [Heap.size_push]; exact Nat.lt_succ_of_le (hfp b hb)
  · intro D C h tk m' ys nx F' N' o1 hn hC₀ hD₀ hCL hDL hCD offC hj
    refine ⟨m', hn, fun h'' hs'' => fin ys nx D h'' tk hj (F'.change hs'' hCL hC₀) (fun p hp => ?_) o1⟩
    refine ⟨hs''.extBut _ _ ?_ (N' p hp).1, (N' p hp).2⟩
    rcases List.mem_cons.mp hp with rfl | hp
    · exact Ne.symm hCD
    · exact offC p hp

theorem compA_U {elt iter : PySem.Expr} {x y : Str} {px py : Pos} {scope : Scope} {cl : List (Str × Addr)} {pos spos : Pos} {E : Value → Shared → Prop} {Q : Flow → Shared → Prop}
    (hsw : swapsWith (.ListComp elt [⟨.Name x px, iter, [], 0⟩] scope pos) (some (.Name y py)) spos.line env = pure true)
    (hclos : closureFor scope env = pure cl) (hcell : ∀ z ∈ scope.names, z.2 ≠ .cell) (hkind : scope.kind = .function)
    (hnames : ∀ z ∈ scope.names, z.2 = .local → scope.names.lookup z.1 = some .local) (hx : scope.names.lookup x = some .local)
    (hy : env.kindOf y = some .local) (hp : (env.scope.kind == .class || (env.scope.kind == .module && env.locals != env.globals)) = false)
    (h : wpAny (model prog w) A (eval iter env) (fun xv s₁ => Hold (ShV5P4V1P4 (fun n P S m news => Src prog w A h₀ env.locals s₁ xv n P S) (fun n P S m news => n ≤ sizeLine) (fun n P S m news => Fr h₀ env.locals s₁.heap m) (fun n P S m news => News h₀ env.locals s₁.heap news) (fun n P S m news (J : Nat → List Value → Led → Prop) => (∀ i ys nx, J i ys nx → S nx)) (fun n P S m news (J : Nat → List Value → Led → Prop) => J 0 [] news) (fun n P S m news (J : Nat → List Value → Led → Prop) => (∀ i v ys nx I oI C oC D m₂ h tk (E' : Value → Shared → Prop), i < n → P i v → J i ys nx → NsObj oC m₂ → m₂ x = some v → Fr h₀ env.locals h m → News h₀ env.locals h ((I, oI) :: (C, oC) :: (D, lst ys) :: nx) → Off3 I C D nx → ((@Ne Nat I C) ∧ (@Ne Nat I D) ∧ (@Ne Nat C D)) →
        wpAny (model prog w) A (eval elt (compEnvC scope cl C env)) (CompEnd h₀ env.locals m { s₁ with heap := h, toks := tk } I oI C oC D (lst ys) (fun _ => True) (fun y nx' => J (i + 1) (ys ++ [y]) nx')) E' { s₁ with heap := h, toks := tk })) (fun n P S m news (J : Nat → List Value → Led → Prop) => ∀ ys nx D h tk, J n ys nx → Fr h₀ env.locals h (fun z => if z = y then some (.ref D) else m z) → News h₀ env.locals h ((D, lst ys) :: nx) → Off1 D nx → Q .next { s₁ with heap := h, toks := tk }))) E s)
    (hs : ∀ x, foldedSetIterable iter env x = pure x := by intro _; rfl) :
    wpAny (model prog w) A (exec (.Assign [.Name y py] (.ListComp elt [⟨.Name x px, iter, [], 0⟩] scope pos) spos) env) Q E s := by
  rw [exec_Assign_Name_used _ _ _ _ hsw]
  refine wpAny_bind (wpAny_standAt (wpAny_bind ?_))
  show wpAny _ A (do let _ ← comprehension (.ListComp elt [⟨.Name x px, iter, [], 0⟩] scope pos) scope env _ (newList []) false (eval iter env) (some (assign (.Name y py) env))) _ _ s
  refine wpAny_bind (wpAny_mono (wpAny_comprehension_free (use := some (assign (.Name y py) env)) (Q := fun _ s' => Q .next s') rfl hs hclos hkind hnames
    (wpAny_mono h (fun xv s₁ h₁ => ?_) fun _ _ e => e)) (fun _ s' hq => wpAny_pure (wpAny_pure hq)) fun _ _ e => e)
  obtain ⟨n, P, S, m, news, hS, hsz, F, N, J, hJS, h0, turn, fin⟩ := h₁
  refine hS _ _ fun o fp St K hst hfp => ?_
  have up : ∀ b o', s₁.heap.get? b = some o' → (s₁.heap.push o).get? b = some o' := fun b o' e => Heap.get?_push_of_some _ e
  refine block_U (h₀ := h₀) (L := env.locals) (m := m) (news := news) (S := S) (Fin := fun ys nx => J n ys nx) K.W hsz K.io K.st hcell hkind hx hst (fun b hb => ?_) (F.keeps up) (N.grown up) (Nat.ne_of_lt F.ns.lt) (next_is_new F) (fun p hp => Nat.ne_of_lt (Heap.lt_size (N p hp).1)) (hJS _ _ _ h0)
    (rest_U (s := { s₁ with heap := s₁.heap.push o }) J hJS (fun i v ys nx I oI C oC D m₂ h tk E' a1 a2 a3 a4 a5 a6 a7 a8 a9 => turn i v ys nx I oI C oC D m₂ h tk E' a1 a2 a3 a4 a5 a6 a7 a8 a9) (fun ys nx hj => hj) n 0 [] news (by omega) h0) ?_
  · show b < (s₁.heap.push o).objs.size
    rw [Heap.size_push]; exact Nat.lt_succ_of_le (hfp b hb)
  · intro D C h' tk m' ys nx F' N' o1 hn hC₀ hD₀ hCL hDL hCD offC hj
    show wpAny _ A (assign (.Name y py) env (.ref D)) _ _ _
    refine wpAny_assign_Name (wpAny_storeName_local hy F'.ns (fun h₂ hn₂ hs₂ => ?_) hp)
    have hL₀ : h₀.get? env.locals = none := Heap.get?_none_of_le F'.above
    have F₂ : Fr h₀ env.locals h₂ (fun z => if z = y then some (.ref D) else m z) := ⟨hn₂, fun b o e => hs₂.extBut b o (fun q => by rw [q, hL₀] at e; cases e) (F'.keep b o e), F'.above⟩
    refine ⟨m', hn.sameBut hs₂ hCL, fun h'' hs'' => fin ys nx D h'' _ hj (F₂.change hs'' hCL hC₀) (fun p hp => ?_) o1⟩
    have z : h₂.get? p.1 = some p.2 := hs₂.extBut _ _ (N' p hp).2.1 (N' p hp).1
    refine ⟨hs''.extBut _ _ ?_ z, (N' p hp).2⟩
    rcases List.mem_cons.mp hp with rfl | hp
    · exact Ne.symm hCD
    · exact offC p hp

theorem rest_T {ct elt : PySem.Expr} {x : Str} {scope : Scope} {cl : List (Str × Addr)} {S : Led → Prop} {P : Nat → Value → Prop} {Fin : List Value → Led → Prop} {n : Nat} (J : Nat → List Value → Led → Prop) (hJS : ∀ i ys nx, J i ys nx → S nx)
    (turn : ∀ i v ys nx I oI C oC D m₂ h tk (E' : Value → Shared → Prop), i < n → P i v → J i ys nx → NsObj oC m₂ → m₂ x = some v → Fr h₀ L h m → News h₀ L h ((I, oI) :: (C, oC) :: (D, lst ys) :: nx) → Off3 I C D nx → ((@Ne Nat I C) ∧ (@Ne Nat I D) ∧ (@Ne Nat C D)) →
      wpAny (model prog w) A (isTrue ct (compEnvC scope cl C env) (eval ct (compEnvC scope cl C env))) (fun ok s' => if ok = true then wpAny (model prog w) A (eval elt (compEnvC scope cl C env)) (CompEnd h₀ L m { s with heap := h, toks := tk } I oI C oC D (lst ys) (fun _ => True) (fun y nx' => J (i + 1) (ys ++ [y]) nx')) E' s' else CompEnd h₀ L m { s with heap := h, toks := tk } I oI C oC D (lst ys) (fun _ => True) (fun _ nx' => J (i + 1) ys nx') Value.none s') E' { s with heap := h, toks := tk })
    (fin : ∀ ys nx, J n ys nx → Fin ys nx) : ∀ (j i : Nat) (ys : List Value) (nx : Led), i + j = n → J i ys nx → CompRestT prog w A h₀ L m env ct elt x scope cl s S P Fin j i ys nx := by
  intro j
  induction j with
  | zero =>
    intro i ys nx e hJ
    obtain rfl : i = n := by omega
    exact fin ys nx hJ
  | succ j ih =>
    intro i ys nx e hJ
    intro v I oI C oC D m₂ h tk E' hP hC hx F N off ne
    refine wpAny_mono (turn i v ys nx I oI C oC D m₂ h tk E' (by omega) hP hJ hC hx F N off ne) (fun ok s₂ hq => ?_) fun _ _ e => e
    cases ok with
    | true =>
      simp only [if_true] at hq ⊢
      refine wpAny_mono hq (fun y s₃ hq => ?_) fun _ _ e => e
      obtain ⟨h', tk', nx', e', F', N', off', _, hj⟩ := hq
      exact ⟨h', tk', nx', e', F', N', off', hJS _ _ _ hj, ih _ _ _ (by omega) hj⟩
    | false =>
      simp only [Bool.false_eq_true, if_false] at hq ⊢
      obtain ⟨h', tk', nx', e', F', N', off', _, hj⟩ := hq
      exact ⟨h', tk', nx', e', F', N', off', hJS _ _ _ hj, ih _ _ _ (by omega) hj⟩

theorem comp_T {ct elt iter : PySem.Expr} {x : Str} {px : Pos} {scope : Scope} {cl : List (Str × Addr)} {pos : Pos} {E : Value → Shared → Prop} {Q : Value → Shared → Prop}
    (hclos : closureFor scope env = pure cl) (hcell : ∀ y ∈ scope.names, y.2 ≠ .cell) (hkind : scope.kind = .function)
    (hnames : ∀ y ∈ scope.names, y.2 = .local → scope.names.lookup y.1 = some .local) (hx : scope.names.lookup x = some .local)
    (h : wpAny (model prog w) A (eval iter env) (fun xv s₁ => Hold (ShV5P4V1P4 (fun n P S m news => Src prog w A h₀ L s₁ xv n P S) (fun n P S m news => n ≤ sizeLine) (fun n P S m news => Fr h₀ L s₁.heap m) (fun n P S m news => News h₀ L s₁.heap news) (fun n P S m news (J : Nat → List Value → Led → Prop) => (∀ i ys nx, J i ys nx → S nx)) (fun n P S m news (J : Nat → List Value → Led → Prop) => J 0 [] news) (fun n P S m news (J : Nat → List Value → Led → Prop) => (∀ i v ys nx I oI C oC D m₂ h tk (E' : Value → Shared → Prop), i < n → P i v → J i ys nx → NsObj oC m₂ → m₂ x = some v → Fr h₀ L h m → News h₀ L h ((I, oI) :: (C, oC) :: (D, lst ys) :: nx) → Off3 I C D nx → ((@Ne Nat I C) ∧ (@Ne Nat I D) ∧ (@Ne Nat C D)) →
        wpAny (model prog w) A (isTrue ct (compEnvC scope cl C env) (eval ct (compEnvC scope cl C env))) (fun ok s' => if ok = true then wpAny (model prog w) A (eval elt (compEnvC scope cl C env)) (CompEnd h₀ L m { s₁ with heap := h, toks := tk } I oI C oC D (lst ys) (fun _ => True) (fun y nx' => J (i + 1) (ys ++ [y]) nx')) E' s' else CompEnd h₀ L m { s₁ with heap := h, toks := tk } I oI C oC D (lst ys) (fun _ => True) (fun _ nx' => J (i + 1) ys nx') Value.none s') E' { s₁ with heap := h, toks := tk })) (fun n P S m news (J : Nat → List Value → Led → Prop) => ∀ ys nx D h tk, J n ys nx → Fr h₀ L h m → News h₀ L h ((D, lst ys) :: nx) → Off1 D nx → Q (.ref D) { s₁ with heap := h, toks := tk }))) E s)
    (hs : ∀ x, foldedSetIterable iter env x = pure x := by intro _; rfl) :
    wpAny (model prog w) A (eval (.ListComp elt [⟨.Name x px, iter, [ct], 0⟩] scope pos) env) Q E s := by
  rw [eval_ListComp]
  refine wpAny_comprehension_free (use := none) rfl hs hclos hkind hnames (wpAny_mono h (fun xv s₁ h₁ => ?_) fun _ _ e => e)
  obtain ⟨n, P, S, m, news, hS, hsz, F, N, J, hJS, h0, turn, fin⟩ := h₁
  refine hS _ _ fun o fp St K hst hfp => ?_
  have up : ∀ b o', s₁.heap.get? b = some o' → (s₁.heap.push o).get? b = some o' := fun b o' e => Heap.get?_push_of_some _ e
  refine block_T (h₀ := h₀) (L := L) (m := m) (news := news) (S := S) (Fin := fun ys nx => J n ys nx) K.W hsz K.io K.st hcell hkind hx hst (fun b hb => ?_) (F.keeps up) (N.grown up) (Nat.ne_of_lt F.ns.lt) (next_is_new F) (fun p hp => Nat.ne_of_lt (Heap.lt_size (N p hp).1)) (hJS _ _ _ h0)
    (rest_T (s := { s₁ with heap := s₁.heap.push o }) J hJS (fun i v ys nx I oI C oC D m₂ h tk E' a1 a2 a3 a4 a5 a6 a7 a8 a9 => turn i v ys nx I oI C oC D m₂ h tk E' a1 a2 a3 a4 a5 a6 a7 a8 a9) (fun ys nx hj => hj) n 0 [] news (by omega) h0) ?_
  · show b < (s₁.heap.push o).objs.size
    rw [Heap.size_push]; exact Nat.lt_succ_of_le (hfp b hb)
  · intro D C h tk m' ys nx F' N' o1 hn hC₀ hD₀ hCL hDL hCD offC hj
    refine ⟨m', hn, fun h'' hs'' => fin ys nx D h'' tk hj (F'.change hs'' hCL hC₀) (fun p hp => ?_) o1⟩
    refine ⟨hs''.extBut _ _ ?_ (N' p hp).1, (N' p hp).2⟩
    rcases List.mem_cons.mp hp with rfl | hp
    · exact Ne.symm hCD
    · exact offC p hp

theorem compA_T {ct elt iter : PySem.Expr} {x y : Str} {px py : Pos} {scope : Scope} {cl : List (Str × Addr)} {pos spos : Pos} {E : Value → Shared → Prop} {Q : Flow → Shared → Prop}
    (hsw : swapsWith (.ListComp elt [⟨.Name x px, iter, [ct], 0⟩] scope pos) (some (.Name y py)) spos.line env = pure true)
    (hclos : closureFor scope env = pure cl) (hcell : ∀ z ∈ scope.names, z.2 ≠ .cell) (hkind : scope.kind = .function)
    (hnames : ∀ z ∈ scope.names, z.2 = .local → scope.names.lookup z.1 = some .local) (hx : scope.names.lookup x = some .local)
    (hy : env.kindOf y = some .local) (hp : (env.scope.kind == .class || (env.scope.kind == .module && env.locals != env.globals)) = false)
    (h : wpAny (model prog w) A (eval iter env) (fun xv s₁ => Hold (ShV5P4V1P4 (fun n P S m news => Src prog w A h₀ env.locals s₁ xv n P S) (fun n P S m news => n ≤ sizeLine) (fun n P S m news => Fr h₀ env.locals s₁.heap m) (fun n P S m news => News h₀ env.locals s₁.heap news) (fun n P S m news (J : Nat → List Value → Led → Prop) => (∀ i ys nx, J i ys nx → S nx)) (fun n P S m news (J : Nat → List Value → Led → Prop) => J 0 [] news) (fun n P S m news (J : Nat → List Value → Led → Prop) => (∀ i v ys nx I oI C oC D m₂ h tk (E' : Value → Shared → Prop), i < n → P i v → J i ys nx → NsObj oC m₂ → m₂ x = some v → Fr h₀ env.locals h m → News h₀ env.locals h ((I, oI) :: (C, oC) :: (D, lst ys) :: nx) → Off3 I C D nx → ((@Ne Nat I C) ∧ (@Ne Nat I D) ∧ (@Ne Nat C D)) →
        wpAny (model prog w) A (isTrue ct (compEnvC scope cl C env) (eval ct (compEnvC scope cl C env))) (fun ok s' => if ok = true then wpAny (model prog w) A (eval elt (compEnvC scope cl C env)) (CompEnd h₀ env.locals m { s₁ with heap := h, toks := tk } I oI C oC D (lst ys) (fun _ => True) (fun y nx' => J (i + 1) (ys ++ [y]) nx')) E' s' else CompEnd h₀ env.locals m { s₁ with heap := h, toks := tk } I oI C oC D (lst ys) (fun _ => True) (fun _ nx' => J (i + 1) ys nx') Value.none s') E' { s₁ with heap := h, toks := tk })) (fun n P S m news (J : Nat → List Value → Led → Prop) => ∀ ys nx D h tk, J n ys nx → Fr h₀ env.locals h (fun z => if z = y then some (.ref D) else m z) → News h₀ env.locals h ((D, lst ys) :: nx) → Off1 D nx → Q .next { s₁ with heap := h, toks := tk }))) E s)
    (hs : ∀ x, foldedSetIterable iter env x = pure x := by intro _; rfl) :
    wpAny (model prog w) A (exec (.Assign [.Name y py] (.ListComp elt [⟨.Name x px, iter, [ct], 0⟩] scope pos) spos) env) Q E s := by
  rw [exec_Assign_Name_used _ _ _ _ hsw]
  refine wpAny_bind (wpAny_standAt (wpAny_bind ?_))
  show wpAny _ A (do let _ ← comprehension (.ListComp elt [⟨.Name x px, iter, [ct], 0⟩] scope pos) scope env _ (newList []) false (eval iter env) (some (assign (.Name y py) env))) _ _ s
  refine wpAny_bind (wpAny_mono (wpAny_comprehension_free (use := some (assign (.Name y py) env)) (Q := fun _ s' => Q .next s') rfl hs hclos hkind hnames
    (wpAny_mono h (fun xv s₁ h₁ => ?_) fun _ _ e => e)) (fun _ s' hq => wpAny_pure (wpAny_pure hq)) fun _ _ e => e)
  obtain ⟨n, P, S, m, news, hS, hsz, F, N, J, hJS, h0, turn, fin⟩ := h₁
  refine hS _ _ fun o fp St K hst hfp => ?_
  have up : ∀ b o', s₁.heap.get? b = some o' → (s₁.heap.push o).get? b = some o' := fun b o' e => Heap.get?_push_of_some _ e
  refine block_T (h₀ := h₀) (L := env.locals) (m := m) (news := news) (S := S) (Fin := fun ys nx => J n ys nx) K.W hsz K.io K.st hcell hkind hx hst (fun b hb => ?_) (F.keeps up) (N.grown up) (Nat.ne_of_lt F.ns.lt) (next_is_new F) (fun p hp => Nat.ne_of_lt (Heap.lt_size (N p hp).1)) (hJS _ _ _ h0)
    (rest_T (s := { s₁ with heap := s₁.heap.push o }) J hJS (fun i v ys nx I oI C oC D m₂ h tk E' a1 a2 a3 a4 a5 a6 a7 a8 a9 => turn i v ys nx I oI C oC D m₂ h tk E' a1 a2 a3 a4 a5 a6 a7 a8 a9) (fun ys nx hj => hj) n 0 [] news (by omega) h0) ?_
  · show b < (s₁.heap.push o).objs.size
    rw [Heap.size_push]; exact Nat.lt_succ_of_le (hfp b hb)
  · intro D C h' tk m' ys nx F' N' o1 hn hC₀ hD₀ hCL hDL hCD offC hj
    show wpAny _ A (assign (.Name y py) env (.ref D)) _ _ _
    refine wpAny_assign_Name (wpAny_storeName_local hy F'.ns (fun h₂ hn₂ hs₂ => ?_) hp)
    have hL₀ : h₀.get? env.locals = none := Heap.get?_none_of_le F'.above
    have F₂ : Fr h₀ env.locals h₂ (fun z => if z = y then some (.ref D) else m z) := ⟨hn₂, fun b o e => hs₂.extBut b o (fun q => by rw [q, hL₀] at e; cases e) (F'.keep b o e), F'.above⟩
    refine ⟨m', hn.sameBut hs₂ hCL, fun h'' hs'' => fin ys nx D h'' _ hj (F₂.change hs'' hCL hC₀) (fun p hp => ?_) o1⟩
    have z : h₂.get? p.1 = some p.2 := hs₂.extBut _ _ (N' p hp).2.1 (N' p hp).1
    refine ⟨hs''.extBut _ _ ?_ z, (N' p hp).2⟩
    rcases List.mem_cons.mp hp with rfl | hp
    · exact Ne.symm hCD
    · exact offC p hp
end
end
open PyProof.Rows.LCg PyProof.Rows.LCt
/-- q stands in the ledger; the rest -/
inductive Front (q : Addr × Obj) : Led → Led → Prop
  | head {l} : Front q (q :: l) l
  | tail {p l r} : Front q l r → Front q (p :: l) (p :: r)
  | app {t l r} : Front q l r → Front q (t ++ l) (t ++ r)
theorem Front.sub {q : Addr × Obj} {l r : Led} (f : Front q l r) : ∀ p ∈ q :: r, p ∈ l := by
  induction f with
  | head => exact fun _ h => h
  | tail f ih =>
    intro p h
    rcases List.mem_cons.mp h with rfl | h
    · exact List.mem_cons_of_mem _ (ih _ List.mem_cons_self)
    · rcases List.mem_cons.mp h with rfl | h
      · exact List.mem_cons_self
      · exact List.mem_cons_of_mem _ (ih _ (List.mem_cons_of_mem _ h))
  | app f ih =>
    intro p h
    rcases List.mem_cons.mp h with rfl | h
    · exact List.mem_append_right _ (ih _ List.mem_cons_self)
    · rcases List.mem_append.mp h with h | h
      · exact List.mem_append_left _ h
      · exact List.mem_append_right _ (ih _ (List.mem_cons_of_mem _ h))
theorem Front.news {q : Addr × Obj} {h₀ h : Heap} {L : Addr} {l r : Led} (f : Front q l r) (N : News h₀ L h l) : News h₀ L h (q :: r) := fun p hp => N p (f.sub p hp)
theorem sub_refl {l : Led} : ∀ p ∈ l, p ∈ l := fun _ h => h
theorem sub_cons {l l' : Led} {q : Addr × Obj} (h : ∀ p ∈ l, p ∈ l') : ∀ p ∈ l, p ∈ q :: l' := fun p hp => List.mem_cons_of_mem _ (h p hp)
theorem sub_appl {l l₁ l₂ : Led} (h : ∀ p ∈ l, p ∈ l₁) : ∀ p ∈ l, p ∈ l₁ ++ l₂ := fun p hp => List.mem_append_left _ (h p hp)
theorem sub_appr {l l₁ l₂ : Led} (h : ∀ p ∈ l, p ∈ l₂) : ∀ p ∈ l, p ∈ l₁ ++ l₂ := fun p hp => List.mem_append_right _ (h p hp)
theorem sub_nil {l : Led} : ∀ p ∈ ([] : Led), p ∈ l := fun _ h => nomatch h
theorem sub_of_cons {l l' : Led} {q : Addr × Obj} (hq : q ∈ l') (h : ∀ p ∈ l, p ∈ l') : ∀ p ∈ q :: l, p ∈ l' := List.forall_mem_cons.mpr ⟨hq, h⟩
theorem sub_of_app {l₁ l₂ l' : Led} (h₁ : ∀ p ∈ l₁, p ∈ l') (h : ∀ p ∈ l₂, p ∈ l') : ∀ p ∈ l₁ ++ l₂, p ∈ l' := List.forall_mem_append.mpr ⟨h₁, h⟩
theorem News.sub {h₀ h : Heap} {L : Addr} {l r : Led} (N : News h₀ L h l) (f : ∀ p ∈ r, p ∈ l) : News h₀ L h r := fun p hp => N p (f p hp)
theorem TakeIn.mono {l l' : Led} {v : Value} {pl : Addr} (hs : ∀ p ∈ l, p ∈ l') (h : TakeIn l v pl) : TakeIn l' v pl := by
  obtain ⟨f', qual, dc, pm, c', ctv, cc, pc, lc, oc, vs, tq, o1, o2, nn, ws, ns, e1, i1, i2, i3, i4, i5, i6, i7, i8, i9, i10, i11, i12⟩ := h.at_
  exact ⟨f', qual, dc, pm, c', ctv, cc, pc, lc, oc, vs, tq, o1, o2, nn, ws, ns, e1, hs _ i1, hs _ i2, i3, i4, hs _ i5, i6, hs _ i7, i8, hs _ i9, i10, i11, i12⟩
theorem TakeIn.fnAt {h₀ h : Heap} {L f pl : Addr} {l l' : Led} (N : News h₀ L h l) (I : TakeIn l' (.ref f) pl) (hs : ∀ p ∈ l', p ∈ l) : FnAt f h := by
  obtain ⟨f', qual, dc, pm, c', ctv, cc, pc, lc, oc, vs, tq, o1, o2, nn, ws, ns, e1, i1, _⟩ := I.at_
  cases e1
  exact FnAt.of N (hs _ i1)
/-- a call of the taker, from a ledger as it lies -/
theorem take_call {w : World} {dp un : Nat} {gd : Option (List Code)} {cn : Str} {cs : Scope} {a : Addr} {ccd : Value} {cl : List (Str × Addr)} {outer : List Env} {A₀ : Around} {base h₀ : Heap} {L : Addr} {m mg mb : Str → Option Value} {mean : ExcName → Option Value} {tP : Program} {tL : List Str}
    {news₀ cur rest : Led} {s : Shared} {Q E : Value → Shared → Prop} {f pl : Addr} {k lim : Int} {tk t n : Nat}
    (I : TakeIn news₀ (.ref f) pl) (B : Below A₀ base outer h₀) (F : Fr h₀ L s.heap m) (X : (hd.heap_1 w.params).In h₀) (N : News h₀ L s.heap cur) (T : Top tP tL mean mg mb h₀) (fr : Front (pl, listOf #[.int k tk] n) cur rest) (sub : ∀ p ∈ news₀, p ∈ rest) (off : ∀ p ∈ rest, p.1 ≠ pl)
    (hk : cs.kind = .function) (Sr : h₀.NoSeer) (hdp : dp + 200 < recursionLimit) (hun : un + 400 < cLine) (hk0 : 0 ≤ k) (hk1 : k ≤ 500) (hl0 : 0 < lim) (hl1 : lim ≤ 100)
    (ret : ∀ r t tk' h' tks, 0 ≤ r → r < lim → Fr h₀ L h' m → News h₀ L h' ((pl, listOf #[.int (k + 1) tk'] n) :: rest) → Q (.int r t) { s with heap := h', toks := tks }) :
    wpAny (model prg w) (ktrTop dp un gd cn cs L a ccd cl outer) (call (.ref f) [.int lim t]) Q E s :=
  wpAny_call (take_spec B F X (fr.news N) T hk Sr hdp hun (I.mono sub) off hk0 hk1 hl0 hl1 ret)

theorem lts_ne {l : Led} {d c : Nat} (h : ∀ p ∈ l, @LT.lt Nat _ p.1 d) (hd : d ≤ c) : ∀ p ∈ l, p.1 ≠ c := fun p hp => Nat.ne_of_lt (Nat.lt_of_lt_of_le (h p hp) hd)
theorem gts_ne {l : Led} {d c : Nat} (h : ∀ p ∈ l, @LE.le Nat _ d p.1) (hd : c < d) : ∀ p ∈ l, p.1 ≠ c := fun p hp => Nat.ne_of_gt (Nat.lt_of_lt_of_le hd (h p hp))
theorem lts_sub_ne {l cur : Led} {c : Nat} (h : ∀ p ∈ cur, @LT.lt Nat _ p.1 c) (hs : ∀ p ∈ l, p ∈ cur) : ∀ p ∈ l, p.1 ≠ c := fun p hp => Nat.ne_of_lt (h p (hs p hp))
/-- apart from these addresses -/
def Ap (tl : Led) (adr : List Addr) : Prop := ∀ p ∈ tl, ∀ b ∈ adr, p.1 ≠ b
theorem Ap.nil {adr : List Addr} : Ap [] adr := fun _ h => nomatch h
theorem Ap.ne {tl : Led} {adr : List Addr} {b : Addr} (h : Ap tl adr) (hb : b ∈ adr) : ∀ p ∈ tl, p.1 ≠ b := fun p hp => h p hp b hb
theorem Ap.cons {tl : Led} {adr : List Addr} {q : Addr × Obj} (h : Ap tl adr) (hq : ∀ b ∈ adr, q.1 ≠ b) : Ap (q :: tl) adr := fun p hp b hb => by
  rcases List.mem_cons.mp hp with rfl | hp
  · exact hq b hb
  · exact h p hp b hb
theorem Ap.app {t₁ t₂ : Led} {adr : List Addr} (h₁ : Ap t₁ adr) (h₂ : Ap t₂ adr) : Ap (t₁ ++ t₂) adr := fun p hp b hb => (List.mem_append.mp hp).elim (fun h => h₁ p h b hb) fun h => h₂ p h b hb
theorem Ap.cons_off {tl nx : Led} {adr : List Addr} {D : Addr} {o : Obj} (h : Ap tl adr) (ho : ∀ q ∈ nx, q.1 ≠ D) (hs : ∀ b ∈ adr, ∃ q ∈ nx, q.1 = b) : Ap ((D, o) :: tl) adr :=
  h.cons fun b hb => by obtain ⟨q, hq, rfl⟩ := hs b hb; exact (ho q hq).symm
theorem Off1.all {D : Addr} : ∀ {l : Led}, LCg.Off1 D l → ∀ q ∈ l, q.1 ≠ D
  | [], _, _, h => nomatch h
  | p :: r, x, q, h => by
    rcases List.mem_cons.mp h with rfl | h
    · exact x.1
    · exact Off1.all x.2 q h
theorem Off1.of {D : Addr} : ∀ {l : Led}, (∀ q ∈ l, q.1 ≠ D) → LCg.Off1 D l
  | [], _ => trivial
  | p :: r, h => ⟨h p List.mem_cons_self, Off1.of fun q hq => h q (List.mem_cons_of_mem _ hq)⟩
theorem adr_in {l nx : Led} (h : ∀ p ∈ l, ∃ q ∈ nx, q.1 = p.1) : ∀ b ∈ l.map (·.1), ∃ q ∈ nx, q.1 = b := fun b hb => by
  obtain ⟨p, hp, rfl⟩ := List.mem_map.mp hb
  exact h p hp
theorem adr_sub {l nx : Led} (h : ∀ p ∈ l, p ∈ nx) : ∀ b ∈ l.map (·.1), ∃ q ∈ nx, q.1 = b := adr_in fun p hp => ⟨p, h p hp, rfl⟩
theorem adr_cons {b : Addr} {o : Obj} {l : List Addr} {nx : Led} (hb : (b, o) ∈ nx) (h : ∀ b ∈ l, ∃ q ∈ nx, q.1 = b) : ∀ c ∈ b :: l, ∃ q ∈ nx, q.1 = c := List.forall_mem_cons.mpr ⟨⟨_, hb, rfl⟩, h⟩
theorem small_nat {M : Nat} (h : M ≤ 1000000) : Builtin.Range.small 0 (M : Int) 1 = true := small_one (by decide) (by decide) (by omega) (by omega)
theorem size_nat {M : Nat} : Builtin.Range.rangeSize 0 (M : Int) 1 = ((M : Nat) : Int) := by rw [rangeSize_nat]; congr 1
theorem off3_swap {I C D b : Addr} {o o' : Obj} {l : Led} (h : LCg.Off3 I C D ((b, o) :: l)) : LCg.Off3 I C D ((b, o') :: l) := h
theorem mem_snoc {P : Int → Prop} {ns : List Int} {a : Int} (h : ∀ x ∈ ns, P x) (ha : P a) : ∀ x ∈ ns ++ [a], P x := fun x hx => (List.mem_append.mp hx).elim (h x) fun h' => List.mem_singleton.mp h' ▸ ha
theorem mem_snocL {α : Type} {P : α → Prop} {ns : List α} {a : α} (h : ∀ x ∈ ns, P x) (ha : P a) : ∀ x ∈ ns ++ [a], P x := fun x hx => (List.mem_append.mp hx).elim (h x) fun h' => List.mem_singleton.mp h' ▸ ha
theorem TurnEnd.next {h₀ : Heap} {L I : Addr} {oI : Obj} {J : (Str → Option Value) → Led → Prop} {s₁ : Shared} {Q : Flow → Shared → Prop} {h' : Heap} {tk : Nat} {m' : Str → Option Value} {all : Led} (F : Fr h₀ L h' m') (N : News h₀ L h' all) (nx : Led) (sub : ∀ p ∈ (I, oI) :: nx, p ∈ all) (off : ∀ p ∈ nx, p.1 ≠ I) (hJ : J m' nx) :
    TurnEnd h₀ L I oI J s₁ Q .next { s₁ with heap := h', toks := tk } := ⟨h', tk, m', nx, rfl, F, News.sub N sub, off, hJ⟩
theorem adr_lt {l cur : Led} {c : Nat} (h : ∀ p ∈ cur, @LT.lt Nat _ p.1 c) (hs : ∀ p ∈ l, p ∈ cur) : ∀ b ∈ l.map (·.1), c ≠ b := fun b hb => by
  obtain ⟨p, hp, rfl⟩ := List.mem_map.mp hb
  exact Nat.ne_of_gt (h p (hs p hp))
theorem Ap.left {t₁ t₂ : Led} {adr : List Addr} (h : Ap (t₁ ++ t₂) adr) : Ap t₁ adr := fun p hp => h p (List.mem_append_left _ hp)
theorem Ap.tail {q : Addr × Obj} {t : Led} {adr : List Addr} (h : Ap (q :: t) adr) : Ap t adr := fun p hp => h p (List.mem_cons_of_mem _ hp)
theorem Ap.head {q : Addr × Obj} {t : Led} {adr : List Addr} (h : Ap (q :: t) adr) {b : Addr} (hb : b ∈ adr) : @Ne Nat q.1 b := h q List.mem_cons_self b hb
theorem Ap.adr {t : Led} {adr adr' : List Addr} (h : Ap t adr) (hs : ∀ b ∈ adr', b ∈ adr) : Ap t adr' := fun p hp b hb => h p hp b (hs b hb)
theorem map_sub {l l' : Led} (h : ∀ p ∈ l, p ∈ l') : ∀ b ∈ l.map (·.1), b ∈ l'.map (·.1) := fun b hb => by
  obtain ⟨p, hp, rfl⟩ := List.mem_map.mp hb
  exact List.mem_map.mpr ⟨p, h p hp, rfl⟩
theorem mem_adr {l : Led} {b : Addr} {o : Obj} (h : (b, o) ∈ l) : b ∈ l.map (·.1) := List.mem_map.mpr ⟨_, h, rfl⟩
theorem Ap.cons_lt {tl cur l : Led} {D b : Addr} {o ob : Obj} (h : Ap tl (b :: l.map (·.1))) (hl : ∀ p ∈ cur, @LT.lt Nat _ p.1 D) (hb : (b, ob) ∈ cur) (hs : ∀ p ∈ l, p ∈ cur) : Ap ((D, o) :: tl) (b :: l.map (·.1)) :=
  h.cons (List.forall_mem_cons.mpr ⟨Nat.ne_of_gt (hl _ hb), adr_lt hl hs⟩)
/-- what follows a statement: the rest, or the leaving -/
abbrev Cont (M : Model) (A : Around) (rest : List Stmt) (env : Env) (Q : Flow → Shared → Prop) (E : Value → Shared → Prop) (f : Flow) (s : Shared) : Prop := match f with
  | .next => wpAny M A (execs rest env) Q E s
  | f => Q f s
theorem execs_cont {M : Model} {A : Around} {st : Stmt} {rest : List Stmt} {env : Env} {Q : Flow → Shared → Prop} {E : Value → Shared → Prop} {s : Shared} (h : wpAny M A (exec st env) (Cont M A rest env Q E) E s) : wpAny M A (execs (st :: rest) env) Q E s :=
  wpAny_execs_cons (wpAny_mono h (fun f _ q => by cases f <;> exact q) fun _ _ e => e)
/-- no exception comes out: then none of any kind -/
theorem no_raise {M : Model} {A : Around} {α : Type} {x : Sem α} {Q : α → Shared → Prop} {E : Value → Shared → Prop} {s : Shared} (h : wpAny M A x Q (fun _ _ => False) s) : wpAny M A x Q E s :=
  wpAny_mono h (fun _ _ z => z) (fun _ _ z => z.elim)
/-- the count of what was made, forgotten -/
theorem gen_toks {M : Model} {A : Around} {α : Type} {x : Sem α} {Q : α → Shared → Prop} {E : Value → Shared → Prop} {hp gs dr os} {n : Nat} (h : ∀ tk : Nat, wpAny M A x Q E ⟨hp, gs, dr, tk, os⟩) : wpAny M A x Q E ⟨hp, gs, dr, n + 1, os⟩ :=
  h _
/-- is the name a local one? -/
theorem loc_first {M : Model} {A : Around} {x : Str} {pos : Pos} {env : Env} {Q : Value → Shared → Prop} {E : Value → Shared → Prop} {s : Shared} (_ : env.kindOf x = some .local) (h : wpAny M A (eval (.Name x pos) env) Q E s) : wpAny M A (eval (.Name x pos) env) Q E s := h
local macro_rules | `(tactic| walk_at $s:str) => `(tactic| k_extra $s)
local macro_rules | `(tactic| wtm_at $s:str) => `(tactic| k_extra $s)
local macro_rules | `(tactic| k_mem) => `(tactic| wtm_at "k:mem")
local macro_rules | `(tactic| is_list) => `(tactic| exact News.isList (by k_asm) (by k_mem))
local macro_rules | `(tactic| k_lt $h:ident) => `(tactic| (have h9 := $h; replace $h := allLt_of $h; try simp only [AllLt, and_true] at $h:ident))
local macro_rules | `(tactic| k_all) => `(tactic| wtm_at "k:all")
local macro_rules | `(tactic| k_room) => `(tactic| first | (dsimp only [ktrTop]; omega) | ktr_room)

theorem lines0 : True := by
  w_top off
  k_with_none
  k_with "k:k1" => ((first | (k_unfold; (try dsimp only)) | (k_end; wrow_close) | walk1 | (dsimp only; walk1) | (leave1; walk_say "STEP leave1"; try dsimp only) | fail "no step"))
  k_with "k:mem" => (first | exact List.mem_cons_self | ktr_member | (refine List.mem_cons_of_mem _ ?_; wtm_at "k:mem") | (refine List.mem_append_left _ ?_; wtm_at "k:mem") | (refine List.mem_append_right _ ?_; wtm_at "k:mem"))
  k_with "k:sub" => (first | with_reducible exact sub_refl | with_reducible assumption | with_reducible exact sub_nil | (with_reducible refine sub_of_cons ?_ ?_; (focus (wtm_at "k:mem")); wtm_at "k:sub") | (with_reducible refine sub_of_app ?_ ?_; (focus (wtm_at "k:sub")); wtm_at "k:sub") | (with_reducible refine sub_cons ?_; wtm_at "k:sub") | (with_reducible refine sub_appl ?_; wtm_at "k:sub") | (with_reducible refine sub_appr ?_; wtm_at "k:sub"))
  k_with "k:front" => (first | exact Front.head | exact Front.tail (by wtm_at "k:front") | exact Front.app (by wtm_at "k:front"))
  k_with "eval Name" => ((k_here; (fail_if_success (fail_if_success ((with_reducible refine loc_first ?_ ?_); (focus (k_dflt rfl))))); k_dflt (refine' nameX_L (by k_asm) (by first | rfl | assumption) ?_ (by rfl) (by rfl); k_whole)))
  k_with "eval Name" => ((k_here; (with_reducible show wpAny _ _ (eval (Expr.Name _ _) (envX _ _ _ _ _ _)) _ _ _); k_dflt (first
  | (refine' nameX_L (by k_asm) (by first | rfl | assumption) ?_ (by rfl) (by rfl); k_whole)
  | (refine' nameX_F (by k_asm) (by rfl) (by k_mem) (by k_asm) ?_ (by rfl) (by rfl); k_whole)
  | (refine' nameX_C (by k_asm) (by rfl) (by k_mem) (by k_asm) ?_ (by rfl) (by rfl); k_whole)
  | (refine' nameX_K (by k_asm) (by k_asm) (by k_asm) (by k_is) ?_ (by rfl) (by rfl); k_whole)
  | (refine' nameX_B (by k_asm) (by k_asm) (by k_asm) (by k_is) (by boot_fast) (by decide) ?_ (by rfl) (by rfl); k_whole))))
  k_with "k:all" => (first | with_reducible assumption | exact List.forall_mem_nil _ | (with_reducible refine List.forall_mem_cons.mpr ⟨?_, ?_⟩; (focus k_ne); wtm_at "k:all") | (with_reducible refine List.forall_mem_append.mpr ⟨?_, ?_⟩; (focus (wtm_at "k:all")); wtm_at "k:all") | exact Ap.ne (by with_reducible assumption) (by wtm_at "k:mem") | exact lts_ne (by with_reducible assumption) (by omega) | exact gts_ne (by with_reducible assumption) (by omega) | exact lts_sub_ne (by with_reducible assumption) (by wtm_at "k:sub"))
  k_with "callWith ref" => ((k_here; k_dflt (refine' callWith_F (TakeIn.fnAt (by k_asm) (by assumption) (by wtm_at "k:sub")) ?_)))
  k_with "And" => (((with_reducible show FnAt _ _ ∧ _); refine' ⟨TakeIn.fnAt (by k_asm) (by assumption) (by wtm_at "k:sub"), ?_⟩; try dsimp only [List.nil_append, List.cons_append]))
  k_with "call ref" => ((k_here; k_dflt (refine' take_call (by assumption) (by k_asm) (by k_asm) (by k_asm) (by k_asm) (by k_asm) (by wtm_at "k:front") (by wtm_at "k:sub") (by wtm_at "k:all") (by first | assumption | rfl) (by assumption) (by omega) (by omega) (by omega) (by omega) (by omega) (by omega) ?_); intro _ _ _ _ _ _ _ _ _; (try k_sweep)))
  k_with "k:haltX" => ((with_reducible show wpAny _ _ (exec (Stmt.Assign _ (Expr.ListComp _ _ _ _) _) _) _ _ _))
  k_with "k:haltX" => ((with_reducible show wpAny _ _ (exec (Stmt.For _ _ _ _ _) _) _ _ _))
  k_with "k:haltE" => ((with_reducible show wpAny _ _ (eval (Expr.ListComp _ _ _ _) _) _ _ _))
  k_with "k:halt" => (wtm_at "k:haltO")
  k_with "k:halt" => (wtm_at "k:haltE")
  k_with "k:halt" => (wtm_at "k:haltX")
  k_with "k:go" => ((try k_fold); repeat' ((fail_if_success (wtm_at "k:halt")); wtm_at "k:k1"))
  k_with "k:haltO" => ((with_reducible show LCg.CompEnd _ _ _ _ _ _ _ _ _ _ _ _ _ _))
  k_with "k:haltO" => ((with_reducible show TurnEnd _ _ _ _ _ _ _ _ _))
  k_with "call type:tuple" => ((k_here; (with_reducible show wpAny _ _ (call (Value.type _) [Value.ref _]) _ _ _); k_dflt (refine' kde_tupleOf (by k_asm) (by k_asm) (by exact News.isList (by k_asm) (by k_mem)) (by ((have hq9 := IntsAre.length (by assumption)); (simp only [List.size_toArray]); omega)) (by rfl) ?_; k_whole); intro _ _ _ _ l1; (try k_lt l1); (try k_sweep)); (try (revert l1; intro _)))
  k_with "k:haltE" => ((with_reducible show wpAny _ _ (call (Value.builtin "list.append") _) _ _ _))
  k_with "subscriptTail Attribute" => ((k_here; k_dflt (refine kba_turn (value' := PySem.Expr.Name (PySem.Str.ofString "_") ⟨0, 0, 0, 0⟩) (fun _ => rfl) ?_)))
  k_with "subscriptTail Subscript" => ((k_here; k_dflt (refine kba_turn (value' := PySem.Expr.Name (PySem.Str.ofString "_") ⟨0, 0, 0, 0⟩) (fun _ => rfl) ?_)))
  k_with "subscriptTail" => (wtm_at "k:fsub")
  k_with "subscriptTail Name Name ref int" => (wtm_at "k:fsub")
  k_with "subscriptTail Name Name str int" => (wtm_at "k:fsub")
  k_with "subscriptTail Name Name ref str" => (wtm_at "k:fsub")
  k_with "subscriptTail Name Constant ref int" => (wtm_at "k:fsub")
  k_with "subscriptTail Name Constant str int" => (wtm_at "k:fsub")
  k_with "subscriptTail Name Constant ref str" => (wtm_at "k:fsub")
  k_with "subscriptTail Name BinOp ref int" => (wtm_at "k:fsub")
  k_with "subscriptTail Name BinOp str int" => (wtm_at "k:fsub")
  k_with "subscriptTail Name BinOp ref str" => (wtm_at "k:fsub")
  k_with "execs cons" => ((k_here; (with_reducible refine gen_toks ?_); (intro (tk : Nat))))
  k_with "execs nil" => ((k_here; (with_reducible refine gen_toks ?_); (intro (tk : Nat))))
  trivial
section
/-- a list of ints, a tuple of ints -/
def RowL (l : Led) (v : Value) (ns : List Int) : Prop := ShV3P3 (fun a ws n => v = .ref a) (fun a ws n => (a, listOf (List.toArray ws) n) ∈ l) (fun a ws n => IntsAre ws ns)
def TupL (l : Led) (v : Value) (ns : List Int) : Prop := ShV3P3 (fun a ws n => v = .ref a) (fun a ws n => (a, tupOf ws n) ∈ l) (fun a ws n => IntsAre ws ns)
inductive All2 {α β : Type} (P : α → β → Prop) : List α → List β → Prop
  | nil : All2 P [] []
  | cons {a b as bs} : P a b → All2 P as bs → All2 P (a :: as) (b :: bs)
theorem All2.mono {α β : Type} {P Q : α → β → Prop} (h : ∀ a b, P a b → Q a b) : ∀ {as bs}, All2 P as bs → All2 Q as bs
  | _, _, .nil => .nil
  | _, _, .cons a r => .cons (h _ _ a) (r.mono h)
theorem All2.length {α β : Type} {P : α → β → Prop} : ∀ {as bs}, All2 P as bs → as.length = bs.length
  | _, _, .nil => rfl
  | _, _, .cons _ r => by rw [List.length_cons, List.length_cons, r.length]
theorem All2.snoc {α β : Type} {P : α → β → Prop} {a b} : ∀ {as bs}, All2 P as bs → P a b → All2 P (as ++ [a]) (bs ++ [b])
  | _, _, .nil, h => .cons h .nil
  | _, _, .cons x r, h => .cons x (r.snoc h)
theorem All2.get {α β : Type} {P : α → β → Prop} : ∀ {as bs} (_ : All2 P as bs) (i : Nat) (b : β), bs[i]? = some b → ∃ a, as[i]? = some a ∧ P a b
  | _, _, .nil, i, b, h => by simp at h
  | _, _, .cons x r, 0, b, h => by simp at h; subst h; exact ⟨_, by simp, x⟩
  | _, _, .cons x r, i + 1, b, h => by
    obtain ⟨a, h1, h2⟩ := r.get i b (by simpa using h)
    exact ⟨a, by simpa using h1, h2⟩
theorem All2.getL {α β : Type} {P : α → β → Prop} : ∀ {as bs} (_ : All2 P as bs) (i : Nat) (a : α), as[i]? = some a → ∃ b, bs[i]? = some b ∧ P a b
  | _, _, .nil, i, b, h => by simp at h
  | _, _, .cons x r, 0, b, h => by simp at h; subst h; exact ⟨_, by simp, x⟩
  | _, _, .cons x r, i + 1, b, h => by
    obtain ⟨a, h1, h2⟩ := r.getL i b (by simpa using h)
    exact ⟨a, by simpa using h1, h2⟩
theorem RowL.mono {l l' : Led} {v : Value} {ns : List Int} (hs : ∀ p ∈ l, p ∈ l') (h : RowL l v ns) : RowL l' v ns := let ⟨a, ws, n, e, hm, hi⟩ := h; ⟨a, ws, n, e, hs _ hm, hi⟩
theorem TupL.mono {l l' : Led} {v : Value} {ns : List Int} (hs : ∀ p ∈ l, p ∈ l') (h : TupL l v ns) : TupL l' v ns := let ⟨a, ws, n, e, hm, hi⟩ := h; ⟨a, ws, n, e, hs _ hm, hi⟩
/-- rows and tags as they lie -/
def RowsL (l : Led) (v : Value) (rows : List (List Int)) : Prop := ShV3P3 (fun a vs n => v = .ref a) (fun a vs n => (a, listOf (List.toArray vs) n) ∈ l) (fun a vs n => All2 (RowL l) vs rows)
def TagsL (l : Led) (v : Value) (tags : List (List Int)) : Prop := ShV3P3 (fun a vs n => v = .ref a) (fun a vs n => (a, listOf (List.toArray vs) n) ∈ l) (fun a vs n => All2 (TupL l) vs tags)
theorem RowsL.mono {l l' : Led} {v : Value} {x : List (List Int)} (hs : ∀ p ∈ l, p ∈ l') (h : RowsL l v x) : RowsL l' v x := let ⟨a, vs, n, e, hm, hi⟩ := h; ⟨a, vs, n, e, hs _ hm, hi.mono fun _ _ => RowL.mono hs⟩
theorem TagsL.mono {l l' : Led} {v : Value} {x : List (List Int)} (hs : ∀ p ∈ l, p ∈ l') (h : TagsL l v x) : TagsL l' v x := let ⟨a, vs, n, e, hm, hi⟩ := h; ⟨a, vs, n, e, hs _ hm, hi.mono fun _ _ => TupL.mono hs⟩
/-- an automaton as the law draws it -/
structure AutoOk (rows tags : List (List Int)) : Prop where
  some_ : 1 ≤ rows.length
  few : rows.length ≤ 3
  same : tags.length = rows.length
  wide : ∀ r ∈ rows, r.length = 3
  within : ∀ r ∈ rows, ∀ x ∈ r, -1 ≤ x ∧ x < rows.length
  tags4 : ∀ t ∈ tags, t.length ≤ 4
  tagsIn : ∀ t ∈ tags, ∀ x ∈ t, 0 ≤ x ∧ x < 4
def AutoL (l : Led) (v : Value) (rows tags : List (List Int)) : Prop := ShV4P4 (fun a rv tv n => v = .ref a) (fun a rv tv n => (a, tupOf [rv, tv] n) ∈ l) (fun a rv tv n => RowsL l rv rows) (fun a rv tv n => TagsL l tv tags)
theorem AutoL.mono {l l' : Led} {v : Value} {r t : List (List Int)} (hs : ∀ p ∈ l, p ∈ l') (h : AutoL l v r t) : AutoL l' v r t := let ⟨a, rv, tv, n, e, hm, h1, h2⟩ := h; ⟨a, rv, tv, n, e, hs _ hm, h1.mono hs, h2.mono hs⟩
theorem auto_spec {w : World} {dp un : Nat} {gd : Option (List Code)} {cn : Str} {cs : Scope} {a : Addr} {ccd : Value} {cl : List (Str × Addr)} {outer : List Env} {A₀ : Around} {base h₀ : Heap} {L : Addr} {m mg mb : Str → Option Value} {mean : ExcName → Option Value} {tP : Program} {tL : List Str}
    {news : List (Addr × Obj)} {s : Shared} {R : Result → Shared → Prop} {f pl : Addr} {k : Int} {tk n : Nat}
    (B : Below A₀ base outer h₀) (F : Fr h₀ L s.heap m) (X : (hd.heap_1 w.params).In h₀) (N : News h₀ L s.heap ((pl, listOf #[.int k tk] n) :: news)) (T : Top tP tL mean mg mb h₀) (hk : cs.kind = .function) (Sr : h₀.NoSeer)
    (hdp : dp + 250 < recursionLimit) (hun : un + 500 < cLine) (I : TakeIn news (.ref f) pl) (off : ∀ p ∈ news, p.1 ≠ pl) (hk0 : 0 ≤ k) (hk1 : k ≤ 400)
    (ret : ∀ v k' tk' tl rows tags h' tks, k ≤ k' → k' ≤ k + 21 → AutoOk rows tags → AutoL tl v rows tags → Fr h₀ L h' m → News h₀ L h' ((pl, listOf #[.int k' tk'] n) :: (tl ++ news)) → Ap tl (pl :: news.map (·.1)) → R (.ok (.ret v)) { s with heap := h', toks := tks }) :
    codeAny (model prg w) (ktrTop dp un gd cn cs L a ccd cl outer) (.call (.ref 779) ⟨[.ref f], []⟩) R s := by
  k_dflt (refine' code_defC (env := envX cn cs L a ccd cl) (outer := outer) B F X N T ?kA ?kF hk ?k6 ?k7 ?k8 ?k9 ?kB ?kD ?_ ?c2 ?c3 ?c4; (case kA => exact rfl); (case kF => exact rfl); (case k6 => k_is); (case k7 => k_is); (case k8 => k_room); (case k9 => exact BindsTo.of_eq (binds := [(Str.ofString "take", .ref f)]) rfl); (case kB => exact rfl); (case kD => decide +kernel); (case c2 => exact rfl); (case c3 => exact rfl); (case c4 => exact rfl); k_whole)
  intro g' L' h' tk' cells' FG' F' N' Y' B' X' T' l1
  have Sr' : g'.NoSeer := Sr.keeps FG'.keep
  with_reducible refine no_raise ?_
  obtain ⟨o1, o2, o3, hE', d1, d2, d3⟩ := CellsAre.three Y'
  subst hE'; clear Y'
  simp only [List.cons_append, List.nil_append] at N'
  replace d1 : o1.data = .cell none := d1
  replace d2 : o2.data = .cell none := d2
  replace d3 : o3.data = .cell (some (.ref f)) := d3
  have lpl : @LT.lt Nat _ pl L' := l1 _ List.mem_cons_self
  have lnews : ∀ p ∈ news, @LT.lt Nat _ p.1 L' := fun p hp => l1 p (List.mem_cons_of_mem _ hp)
  k_lt l1
  change wpAny _ (ktrTop (dp + 1) (un + 3) gd _ _ _ _ _ _ (envX cn cs L a ccd cl :: outer)) _ _ _ _
  dsimp only
  k_fold
  wtm_at "k:go"
  rename_i r t1 tk1 h1 tks1 hr0 hr1 h2 o2' F2 N2 d2'
  obtain ⟨M, hM⟩ : ∃ M : Nat, 1 + r = (M : Int) := ⟨(1 + r).toNat, by omega⟩
  rw [hM] at d2'
  have hM1 : 1 ≤ M := by omega
  have hM3 : M ≤ 3 := by omega
  k_dflt (refine compA_U (h₀ := g') (by with_unfolding_all rfl) (by with_unfolding_all rfl) (by decide) (by rfl) (by decide) (by rfl) (by rfl) (by rfl) ?_)
  wtm_at "k:go"
  rename_i h3 tk3 t31 t32 t33 hr3 F3 N3 keep3
  obtain ⟨bs, hbs⟩ : ∃ bs : Led, bs = (L' + 1 + 1 + 1, o1) :: (L' + 1 + 1, o2') :: (L' + 1, o3) :: news := ⟨_, rfl⟩
  rw [← hbs] at N3
  have hm1 : (L' + 1 + 1 + 1, o1) ∈ bs := by rw [hbs]; wtm_at "k:mem"
  have hm2 : (L' + 1 + 1, o2') ∈ bs := by rw [hbs]; wtm_at "k:mem"
  have hm3 : (L' + 1, o3) ∈ bs := by rw [hbs]; wtm_at "k:mem"
  have It : TakeIn bs (.ref f) pl := I.mono (by rw [hbs]; wtm_at "k:sub")
  have offb : ∀ p ∈ bs, p.1 ≠ pl := by rw [hbs]; wtm_at "k:all"
  first | delta Hold | ((try k_unmd); k_unfold; delta Hold) | (show Hold _; delta Hold)
  refine ⟨M, _, _, _, _, Src.range rfl hr3 (small_nat (by omega)) size_nat, Nat.le_trans hM3 (Nat.le_of_ble_eq_true rfl), F3, N3, fun i ys nx => ShV4P7 (fun k' tk' tl rows => nx = (pl, listOf #[.int k' tk'] n) :: (tl ++ bs)) (fun k' tk' tl rows => k + 1 ≤ k') (fun k' tk' tl rows => k' ≤ k + 1 + 6 * i) (fun k' tk' tl rows => rows.length = i) (fun k' tk' tl rows => All2 (RowL tl) ys rows) (fun k' tk' tl rows => (∀ r ∈ rows, r.length = 3 ∧ ∀ x ∈ r, -1 ≤ x ∧ x < (M : Int))) (fun k' tk' tl rows => Ap tl (pl :: bs.map (·.1))), fun _ _ _ _ => trivial, ?j0, ?turn, ?fin⟩
  case j0 => exact ⟨k + 1, _, [], [], rfl, by omega, by omega, rfl, .nil, fun _ h => (nomatch h), Ap.nil⟩
  case turn =>
    intro i v ys nx I0 oI C0 oC D0 m₂ h tk E' hi hP hJ hC hx F4 N4 off4 ne4
    obtain ⟨k1, tk1', tl, rows, rfl, hka, hkb, hlen, hrows, hok, hap⟩ := hJ
    have hplI := off4.mem _ List.mem_cons_self
    have hplI1 : @Ne Nat pl I0 := hplI.1
    have hplI2 : @Ne Nat pl C0 := hplI.2.1
    have hplI3 : @Ne Nat pl D0 := hplI.2.2
    have N5 := Front.news (by wtm_at "k:front" : Front (pl, listOf #[.int k1 tk1'] n) _ _) N4
    have off5 : ∀ p ∈ (I0, oI) :: (C0, oC) :: (D0, lst ys) :: (tl ++ bs), p.1 ≠ pl := by wtm_at "k:all"
    obtain ⟨b2, hb2⟩ : ∃ b2 : Led, b2 = (I0, oI) :: (C0, oC) :: (D0, lst ys) :: (tl ++ bs) := ⟨_, rfl⟩
    rw [← hb2] at N5 off5
    have hn2 : (L' + 1 + 1, o2') ∈ b2 := by rw [hb2]; wtm_at "k:mem"
    have hn3 : (L' + 1, o3) ∈ b2 := by rw [hb2]; wtm_at "k:mem"
    have It2 : TakeIn b2 (.ref f) pl := It.mono (by rw [hb2]; wtm_at "k:sub")
    clear N4 N3 It
    k_dflt (refine comp_U (h₀ := g') (L := L') (by with_unfolding_all rfl) (by decide) (by rfl) (by decide) (by rfl) ?_)
    wtm_at "k:go"
    rename_i h6 tk6 t61 t62 t63 hr6 F6 N6 keep6
    first | delta Hold | ((try k_unmd); k_unfold; delta Hold) | (show Hold _; delta Hold)
    refine ⟨3, _, _, _, _, Src.range rfl hr6 (by decide) (by rfl), Nat.le_of_ble_eq_true rfl, F6, N6, fun j zs nx => ShV3P6 (fun k2 tk2 ns => nx = (pl, listOf #[.int k2 tk2] n) :: b2) (fun k2 tk2 ns => k1 ≤ k2) (fun k2 tk2 ns => k2 ≤ k1 + 2 * j) (fun k2 tk2 ns => IntsAre zs ns) (fun k2 tk2 ns => ns.length = j) (fun k2 tk2 ns => ∀ x ∈ ns, -1 ≤ x ∧ x < (M : Int)), fun _ _ _ _ => trivial, ?i0, ?iturn, ?ifin⟩
    case i0 => exact ⟨k1, _, [], rfl, by omega, by omega, .nil, rfl, fun _ h => nomatch h⟩
    case iturn =>
      intro j v2 zs nx I1 oI1 C1 oC1 D1 m₃ h7 tk7 E7 hj hP7 hJ7 hC7 hx7 F7 N7 off7 ne7
      obtain ⟨k2, tk2, ns, rfl, hk2a, hk2b, hzs, hnl, hns⟩ := hJ7
      have hq := off7.mem _ List.mem_cons_self
      have hq1 : @Ne Nat pl I1 := hq.1
      have hq2 : @Ne Nat pl C1 := hq.2.1
      have hq3 : @Ne Nat pl D1 := hq.2.2
      clear N6 N
      wtm_at "k:go"
      · exact CompEnd.intro (by assumption) (by assumption) _ (by wtm_at "k:sub") (off3_swap off7) trivial ⟨k2 + 1 + 1, _, ns ++ [_], rfl, by omega, by omega, IntsAre.append hzs (.cons _ _ .nil), by simp [hnl], mem_snoc hns (by constructor <;> omega)⟩
      · exact CompEnd.intro (by assumption) (by assumption) _ (by wtm_at "k:sub") (off3_swap off7) trivial ⟨k2 + 1, _, ns ++ [_], rfl, by omega, by omega, IntsAre.append hzs (.cons _ _ .nil), by simp [hnl], mem_snoc hns (by constructor <;> omega)⟩
    case ifin =>
      intro zs nx D h8 tk8 hJ8 F8 N8 o18
      obtain ⟨k2, tk2, ns, rfl, hk2a, hk2b, hzs, hnl, hns⟩ := hJ8
      have o19 := Off1.all o18
      have hap' : Ap ((D, lst zs) :: tl) (pl :: bs.map (·.1)) := hap.cons_off o19 (adr_cons List.mem_cons_self (adr_sub (by rw [hb2]; wtm_at "k:sub")))
      subst hb2
      have hD1 : @Ne Nat D I0 := Ne.symm (o19 (I0, oI) (by wtm_at "k:mem"))
      have hD2 : @Ne Nat D C0 := Ne.symm (o19 (C0, oC) (by wtm_at "k:mem"))
      have hD3 : @Ne Nat D D0 := Ne.symm (o19 (D0, lst ys) (by wtm_at "k:mem"))
      refine CompEnd.intro F8 N8 ((pl, listOf #[.int k2 tk2] n) :: (((D, lst zs) :: tl) ++ bs)) (by simp only [List.cons_append]; wtm_at "k:sub") ?_ trivial ⟨k2, tk2, (D, lst zs) :: tl, rows ++ [ns], rfl, by omega, by omega, by simp [hlen], ?_, mem_snocL hok ⟨hnl, hns⟩, hap'⟩
      · exact ⟨⟨hplI1, hplI2, hplI3⟩, ⟨hD1, hD2, hD3⟩, off4.2⟩
      · exact (hrows.mono fun _ _ => RowL.mono (by wtm_at "k:sub")).snoc ⟨D, zs, _, rfl, List.mem_cons_self, hzs⟩
  case fin =>
    intro ys nx D h9 tk9 hJ F9 N9 o19
    obtain ⟨k1, tk1', tl, rows, rfl, hka, hkb, hlen, hrows, hok, hap⟩ := hJ
    have o20 := Off1.all o19
    have hap' : Ap ((D, lst ys) :: tl) (pl :: bs.map (·.1)) := hap.cons_off o20 (adr_cons List.mem_cons_self (adr_sub (by wtm_at "k:sub")))
    clear N3 N o19 o20
    change Fr g' L' h9 _ at F9
    change News g' L' h9 _ at N9
    wtm_at "k:go"
    rename_i T0 hx1 lT0 lT0' La hx2 lLa lLa' hx3 Fx Nx
    subst hbs
    have hD1 : @Ne Nat D pl := hap'.head List.mem_cons_self
    have hD2 : @Ne Nat D (L' + 1 + 1 + 1) := hap'.head (List.mem_cons_of_mem _ (mem_adr (o := o1) (by wtm_at "k:mem")))
    have hapt := hap'.tail
    obtain ⟨b3, hb3⟩ : ∃ b3 : Led, b3 = (D, lst ys) :: (tl ++ ((L' + 1 + 1, o2') :: (L' + 1, o3) :: news)) := ⟨_, rfl⟩
    have Ny : News g' L' hx3 ((pl, listOf #[.int k1 tk1'] n) :: (L' + 1 + 1 + 1, o1) :: (La, listOf #[.ref T0] 0) :: ([(T0, tupOf [] 0)] ++ b3)) := News.sub Nx (by rw [hb3]; wtm_at "k:sub")
    have n3 : (L' + 1, o3) ∈ b3 := by rw [hb3]; wtm_at "k:mem"
    have n2 : (L' + 1 + 1, o2') ∈ b3 := by rw [hb3]; wtm_at "k:mem"
    have It3 : TakeIn b3 (.ref f) pl := I.mono (by rw [hb3]; wtm_at "k:sub")
    have of1 : ∀ p ∈ b3, p.1 ≠ pl := by rw [hb3]; wtm_at "k:all"
    have of2 : ∀ p ∈ b3, p.1 ≠ L' + 1 + 1 + 1 := by
      rw [hb3]
      refine List.forall_mem_cons.mpr ⟨hD2, List.forall_mem_append.mpr ⟨hapt.ne (List.mem_cons_of_mem _ (mem_adr (o := o1) (by wtm_at "k:mem"))), ?_⟩⟩
      wtm_at "k:all"
    have of3 : ∀ p ∈ b3, p.1 ≠ La := by rw [hb3]; exact lts_sub_ne lLa (by wtm_at "k:sub")
    have ap0 : Ap [(T0, tupOf [] 0)] (pl :: (L' + 1 + 1 + 1) :: La :: b3.map (·.1)) := Ap.nil.cons (List.forall_mem_cons.mpr ⟨by k_ne, List.forall_mem_cons.mpr ⟨Nat.ne_of_gt (lT0 (L' + 1 + 1 + 1, o1) (by wtm_at "k:mem")), List.forall_mem_cons.mpr ⟨by k_ne, adr_lt lT0 (by rw [hb3]; wtm_at "k:sub")⟩⟩⟩)
    have lL1 : @LT.lt Nat _ (L' + 1 + 1 + 1) La := lLa (L' + 1 + 1 + 1, o1) (by wtm_at "k:mem")
    clear Nx
    have hrow1 : (if Str.ofString "tags" = Str.ofString "tags" then some (Value.ref La) else none) = some (.ref La) := rfl
    k_dflt (refine for_src (h₀ := g') (by rfl) (by rfl) ?_)
    wtm_at "k:go"
    rename_i h11 tk11 t11 u11 v11 hr11 F11 N11 keep11
    obtain ⟨M', hM'⟩ : ∃ M' : Nat, M = M' + 1 := ⟨M - 1, by omega⟩
    first | delta Hold | ((try k_unmd); k_unfold; delta Hold) | (show Hold _; delta Hold)
    refine ⟨M', _, _, _, _, Src.range (n := M') rfl hr11 (small_one (by decide) (by decide) (by omega) (by omega)) (by rw [rangeSize_nat]; congr 1; omega), F11, N11, fun i m nx => ShV8P10 (fun k' tk' om vm tvs c tl2 tags => nx = (pl, listOf #[.int k' tk'] n) :: (L' + 1 + 1 + 1, om) :: (La, listOf (List.toArray tvs) c) :: (tl2 ++ b3)) (fun k' tk' om vm tvs c tl2 tags => om.data = .cell vm) (fun k' tk' om vm tvs c tl2 tags => m (Str.ofString "tags") = some (.ref La)) (fun k' tk' om vm tvs c tl2 tags => m (Str.ofString "rows") = some (.ref D)) (fun k' tk' om vm tvs c tl2 tags => k1 ≤ k') (fun k' tk' om vm tvs c tl2 tags => k' ≤ k1 + i) (fun k' tk' om vm tvs c tl2 tags => tags.length = i + 1) (fun k' tk' om vm tvs c tl2 tags => All2 (TupL tl2) tvs tags) (fun k' tk' om vm tvs c tl2 tags => (∀ t ∈ tags, t.length ≤ 4 ∧ ∀ x ∈ t, 0 ≤ x ∧ x < 4)) (fun k' tk' om vm tvs c tl2 tags => Ap tl2 (pl :: (L' + 1 + 1 + 1) :: La :: b3.map (·.1))), fun _ _ _ _ => trivial, ?j0, ?turn, ?fin⟩
    case j0 =>
      refine ⟨k1, _, _, _, [.ref T0], _, [(T0, tupOf [] 0)], [[]], rfl, d1, rfl, rfl, by omega, by omega, rfl, .cons ⟨T0, [], _, rfl, List.mem_cons_self, .nil⟩ .nil, ?_, ap0⟩
      intro t ht
      rw [List.mem_singleton.mp ht]
      exact ⟨by decide, fun _ h => nomatch h⟩
    case turn =>
      intro i v m₁ nx I0 oI h tk E' hi hP hJ F12 N12 off12
      obtain ⟨k', tkk, om, vm, tvs, c, tl2, tags, rfl, hom, hmt, hmr, hka', hkb', htl, hall, hok2, hap2⟩ := hJ
      change Fr g' L' h _ at F12
      change News g' L' h _ at N12
      have z1 : @Ne Nat pl I0 := off12 _ (by wtm_at "k:mem")
      have z2 : @Ne Nat (L' + 1 + 1 + 1) I0 := off12 (L' + 1 + 1 + 1, om) (by wtm_at "k:mem")
      have z3 : @Ne Nat La I0 := off12 (La, listOf (List.toArray tvs) c) (by wtm_at "k:mem")
      have w1 : ∀ p ∈ tl2, p.1 ≠ I0 := fun p hp => off12 p (List.mem_cons_of_mem _ (List.mem_cons_of_mem _ (List.mem_cons_of_mem _ (List.mem_append_left _ hp))))
      have w2 : ∀ p ∈ b3, p.1 ≠ I0 := fun p hp => off12 p (List.mem_cons_of_mem _ (List.mem_cons_of_mem _ (List.mem_cons_of_mem _ (List.mem_append_right _ hp))))
      have z4 := hap2.ne (b := pl) (by wtm_at "k:mem")
      have z5 := hap2.ne (b := L' + 1 + 1 + 1) (by wtm_at "k:mem")
      have z6 := hap2.ne (b := La) (by wtm_at "k:mem")
      clear N11
      wtm_at "k:go"
      rename_i rm tm tkm hm tksm hrm0 hrm1 hm2 om' Fm Nm dm
      obtain ⟨b5, hb5⟩ : ∃ b5 : Led, b5 = (pl, listOf #[.int (k' + 1) tkm] n) :: (L' + 1 + 1 + 1, om') :: (I0, oI) :: (La, listOf (List.toArray tvs) c) :: (tl2 ++ b3) := ⟨_, rfl⟩
      have N15 : News g' L' hm2 b5 := News.sub Nm (by rw [hb5]; wtm_at "k:sub")
      have hm5 : (L' + 1 + 1 + 1, om') ∈ b5 := by rw [hb5]; wtm_at "k:mem"
      clear Nm
      k_dflt (refine comp_T (h₀ := g') (L := L') (by with_unfolding_all rfl) (by decide) (by rfl) (by decide) (by rfl) ?_)
      wtm_at "k:go"
      rename_i h16 tk16 t16 u16 v16 hr16 F16 N16 keep16
      first | delta Hold | ((try k_unmd); k_unfold; delta Hold) | (show Hold _; delta Hold)
      refine ⟨4, _, _, _, _, Src.range rfl hr16 (by decide) (by rfl), Nat.le_of_ble_eq_true rfl, F16, N16, fun j zs nx => ShP1V1P3 (nx = b5) (fun ns => IntsAre zs ns) (fun ns => ns.length ≤ j) (fun ns => ∀ x ∈ ns, 0 ≤ x ∧ x < 4), fun _ _ _ _ => trivial, ?i0, ?iturn, ?ifin⟩
      case i0 => exact ⟨rfl, [], .nil, Nat.le_refl _, fun _ h => nomatch h⟩
      case iturn =>
        intro j v2 zs nx I1 oI1 C1 oC1 D1 m₃ h17 tk17 E7 hj hP7 hJ7 hC7 hx7 F17 N17 off17 ne17
        obtain ⟨rfl, ns, hzs, hnl, hns⟩ := hJ7
        obtain ⟨tv, rfl⟩ := hP7
        have hj0 : (0 : Int) ≤ 0 + (j : Int) := by omega
        have hj4 : 0 + (j : Int) < 4 := by omega
        clear N16
        wtm_at "k:go"
        · exact CompEnd.intro (by assumption) (by assumption) _ (by wtm_at "k:sub") off17 trivial ⟨rfl, ns ++ [_], IntsAre.append hzs (.cons _ _ .nil), by simp; omega, mem_snoc hns ⟨hj0, hj4⟩⟩
        · exact CompEnd.intro (by assumption) (by assumption) _ (by wtm_at "k:sub") off17 trivial ⟨rfl, ns, hzs, by omega, hns⟩
      case ifin =>
        intro zs nx D8 h18 tk18 hJ8 F18 N18 o18
        obtain ⟨hnx, ns, hzs, hnl, hns⟩ := hJ8
        rw [hnx] at N18 o18
        have o19 := Off1.all o18
        clear hnx N16 F16 o18
        wtm_at "k:go"
        rename_i T8 h19 F19 N19 lT8 lT8'
        have N20 : News g' L' h19 ((La, listOf (List.toArray tvs) c) :: (pl, listOf #[.int (k' + 1) tkm] n) :: (L' + 1 + 1 + 1, om') :: (I0, oI) :: (T8, tupOf zs 0) :: (tl2 ++ b3)) := News.sub N19 (by rw [hb5]; wtm_at "k:sub")
        have y1 : @LT.lt Nat _ La T8 := lT8 (La, listOf (List.toArray tvs) c) (by rw [hb5]; wtm_at "k:mem")
        have y2 : @LT.lt Nat _ pl T8 := lT8 (pl, listOf #[.int (k' + 1) tkm] n) (by rw [hb5]; wtm_at "k:mem")
        have y3 : @LT.lt Nat _ (L' + 1 + 1 + 1) T8 := lT8 (L' + 1 + 1 + 1, om') (by rw [hb5]; wtm_at "k:mem")
        have y4 : @LT.lt Nat _ I0 T8 := lT8 (I0, oI) (by rw [hb5]; wtm_at "k:mem")
        have y5 : Ap ((T8, tupOf zs 0) :: tl2) (pl :: (L' + 1 + 1 + 1) :: La :: b3.map (·.1)) := hap2.cons (List.forall_mem_cons.mpr ⟨by k_ne, List.forall_mem_cons.mpr ⟨by k_ne, List.forall_mem_cons.mpr ⟨by k_ne, adr_lt lT8 (by rw [hb5]; wtm_at "k:sub")⟩⟩⟩)
        have lv := All2.length hall
        clear N19
        k_dflt (refine' append_K (by k_asm) N20 ?k3 ?_ ?z)
        case k3 => k_upd
        case z => (simp only [List.size_toArray]; rw [sizeLine_eq]; omega)
        intro h21 F21 N21
        rw [List.push_toArray] at N21
        wtm_at "k:go"
        refine TurnEnd.next F21 N21 ((pl, listOf #[.int (k' + 1) tkm] n) :: (L' + 1 + 1 + 1, om') :: (La, listOf (List.toArray (tvs ++ [.ref T8])) (c + 1)) :: (((T8, tupOf zs 0) :: tl2) ++ b3)) ?_ ?_ ⟨k' + 1, tkm, om', _, tvs ++ [.ref T8], c + 1, (T8, tupOf zs 0) :: tl2, tags ++ [ns], rfl, dm, hmt, hmr, by omega, by omega, by simp [htl], ?_, mem_snocL hok2 ⟨hnl, hns⟩, y5⟩
        · simp only [List.cons_append]
          wtm_at "k:sub"
        · wtm_at "k:all"
        · exact (hall.mono fun _ _ => TupL.mono (by wtm_at "k:sub")).snoc ⟨T8, zs, _, rfl, List.mem_cons_self, hzs⟩
    case fin =>
      intro h22 tk22 m₂ nx F22 N22 hJ
      obtain ⟨k', tkk, om, vm, tvs, c, tl2, tags, rfl, hom, hmt, hmr, hka', hkb', htl, hall, hok2, hap2⟩ := hJ
      change Fr g' L' h22 _ at F22
      change News g' L' h22 _ at N22
      clear N11
      wtm_at "k:go"
      rename_i Tq hq Fq Nq lTq lTq' kF kN kT kX
      have hlen3 : rows.length = M := hlen
      have hsub3 : ∀ p ∈ news, p ∈ b3 := by rw [hb3]; wtm_at "k:sub"
      have a1 : Ap tl2 (pl :: news.map (·.1)) := hap2.adr (List.forall_mem_cons.mpr ⟨by wtm_at "k:mem", fun b hb => List.mem_cons_of_mem _ (List.mem_cons_of_mem _ (List.mem_cons_of_mem _ (map_sub hsub3 b hb)))⟩)
      have a2 : Ap ((D, lst ys) :: tl) (pl :: news.map (·.1)) := hap'.adr (List.forall_mem_cons.mpr ⟨List.mem_cons_self, fun b hb => List.mem_cons_of_mem _ (map_sub (by wtm_at "k:sub") b hb)⟩)
      have a3 : Ap (tl2 ++ ((D, lst ys) :: tl)) (pl :: news.map (·.1)) := a1.app a2
      have a4 : Ap ((La, listOf (List.toArray tvs) c) :: (tl2 ++ ((D, lst ys) :: tl))) (pl :: news.map (·.1)) := a3.cons_lt (ob := listOf #[.int k1 tk1'] n) lLa (by wtm_at "k:mem") (by wtm_at "k:sub")
      have a5 : Ap ((Tq, tupOf [.ref D, .ref La] 0) :: (La, listOf (List.toArray tvs) c) :: (tl2 ++ ((D, lst ys) :: tl))) (pl :: news.map (·.1)) := a4.cons_lt lTq List.mem_cons_self (fun p hp => List.mem_cons_of_mem _ (List.mem_cons_of_mem _ (List.mem_cons_of_mem _ (List.mem_append_right _ (hsub3 p hp)))))
      refine ret _ k' tkk _ rows tags _ _ (by omega) (by omega) ⟨by omega, by omega, by omega, fun r hr => (hok r hr).1, fun r hr x hx => by have := (hok r hr).2 x hx; omega, fun t ht => (hok2 t ht).1, fun t ht => (hok2 t ht).2⟩ ⟨Tq, .ref D, .ref La, 0, rfl, List.mem_cons_self, ⟨D, ys, ys.length, rfl, ?_, hrows.mono fun _ _ => RowL.mono ?_⟩, ⟨La, tvs, c, rfl, List.mem_cons_of_mem _ List.mem_cons_self, hall.mono fun _ _ => TupL.mono ?_⟩⟩ kF (News.sub kN ?_) a5
      · wtm_at "k:mem"
      · wtm_at "k:sub"
      · wtm_at "k:sub"
      · rw [hb3]
        simp only [List.cons_append, List.append_assoc]
        wtm_at "k:sub"
end
theorem lines1 : True := by
  w_top off
  k_with_none
  k_with "k:k1" => ((first | (k_unfold; (try dsimp only)) | (k_end; wrow_close) | walk1 | (dsimp only; walk1) | (leave1; walk_say "STEP leave1"; try dsimp only) | fail "no step"))
  k_with "k:mem" => (first | exact List.mem_cons_self | ktr_member | (refine List.mem_cons_of_mem _ ?_; wtm_at "k:mem") | (refine List.mem_append_left _ ?_; wtm_at "k:mem") | (refine List.mem_append_right _ ?_; wtm_at "k:mem"))
  k_with "k:sub" => (first | with_reducible exact sub_refl | with_reducible assumption | with_reducible exact sub_nil | (with_reducible refine sub_of_cons ?_ ?_; (focus (wtm_at "k:mem")); wtm_at "k:sub") | (with_reducible refine sub_of_app ?_ ?_; (focus (wtm_at "k:sub")); wtm_at "k:sub") | (with_reducible refine sub_cons ?_; wtm_at "k:sub") | (with_reducible refine sub_appl ?_; wtm_at "k:sub") | (with_reducible refine sub_appr ?_; wtm_at "k:sub"))
  k_with "k:front" => (first | exact Front.head | exact Front.tail (by wtm_at "k:front") | exact Front.app (by wtm_at "k:front"))
  k_with "eval Name" => ((k_here; (fail_if_success (fail_if_success ((with_reducible refine loc_first ?_ ?_); (focus (k_dflt rfl))))); k_dflt (refine' nameX_L (by k_asm) (by first | rfl | assumption) ?_ (by rfl) (by rfl); k_whole)))
  k_with "eval Name" => ((k_here; (with_reducible show wpAny _ _ (eval (Expr.Name _ _) (envX _ _ _ _ _ _)) _ _ _); k_dflt (first
  | (refine' nameX_L (by k_asm) (by first | rfl | assumption) ?_ (by rfl) (by rfl); k_whole)
  | (refine' nameX_F (by k_asm) (by rfl) (by k_mem) (by k_asm) ?_ (by rfl) (by rfl); k_whole)
  | (refine' nameX_C (by k_asm) (by rfl) (by k_mem) (by k_asm) ?_ (by rfl) (by rfl); k_whole)
  | (refine' nameX_K (by k_asm) (by k_asm) (by k_asm) (by k_is) ?_ (by rfl) (by rfl); k_whole)
  | (refine' nameX_B (by k_asm) (by k_asm) (by k_asm) (by k_is) (by boot_fast) (by decide) ?_ (by rfl) (by rfl); k_whole))))
  k_with "k:all" => (first | with_reducible assumption | exact List.forall_mem_nil _ | (with_reducible refine List.forall_mem_cons.mpr ⟨?_, ?_⟩; (focus k_ne); wtm_at "k:all") | (with_reducible refine List.forall_mem_append.mpr ⟨?_, ?_⟩; (focus (wtm_at "k:all")); wtm_at "k:all") | exact Ap.ne (by with_reducible assumption) (by wtm_at "k:mem") | exact lts_ne (by with_reducible assumption) (by omega) | exact gts_ne (by with_reducible assumption) (by omega) | exact lts_sub_ne (by with_reducible assumption) (by wtm_at "k:sub"))
  k_with "callWith ref" => ((k_here; k_dflt (refine' callWith_F (TakeIn.fnAt (by k_asm) (by assumption) (by wtm_at "k:sub")) ?_)))
  k_with "And" => (((with_reducible show FnAt _ _ ∧ _); refine' ⟨TakeIn.fnAt (by k_asm) (by assumption) (by wtm_at "k:sub"), ?_⟩; try dsimp only [List.nil_append, List.cons_append]))
  k_with "call ref" => ((k_here; k_dflt (refine' take_call (by assumption) (by k_asm) (by k_asm) (by k_asm) (by k_asm) (by k_asm) (by wtm_at "k:front") (by wtm_at "k:sub") (by wtm_at "k:all") (by first | assumption | rfl) (by assumption) (by omega) (by omega) (by omega) (by omega) (by omega) (by omega) ?_); intro _ _ _ _ _ _ _ _ _; (try k_sweep)))
  k_with "k:haltX" => ((with_reducible show wpAny _ _ (exec (Stmt.Assign _ (Expr.ListComp _ _ _ _) _) _) _ _ _))
  k_with "k:haltX" => ((with_reducible show wpAny _ _ (exec (Stmt.For _ _ _ _ _) _) _ _ _))
  k_with "k:haltE" => ((with_reducible show wpAny _ _ (eval (Expr.ListComp _ _ _ _) _) _ _ _))
  k_with "k:halt" => (wtm_at "k:haltO")
  k_with "k:halt" => (wtm_at "k:haltE")
  k_with "k:halt" => (wtm_at "k:haltX")
  k_with "k:go" => ((try k_fold); repeat' ((fail_if_success (wtm_at "k:halt")); wtm_at "k:k1"))
  k_with "k:haltO" => ((with_reducible show LCg.CompEnd _ _ _ _ _ _ _ _ _ _ _ _ _ _))
  k_with "k:haltO" => ((with_reducible show TurnEnd _ _ _ _ _ _ _ _ _))
  k_with "call type:tuple" => ((k_here; (with_reducible show wpAny _ _ (call (Value.type _) [Value.ref _]) _ _ _); k_dflt (refine' kde_tupleOf (by k_asm) (by k_asm) (by exact News.isList (by k_asm) (by k_mem)) (by ((have hq9 := IntsAre.length (by assumption)); (simp only [List.size_toArray]); omega)) (by rfl) ?_; k_whole); intro _ _ _ _ l1; (try k_lt l1); (try k_sweep)); (try (revert l1; intro _)))
  k_with "k:haltE" => ((with_reducible show wpAny _ _ (call (Value.builtin "list.append") _) _ _ _))
  k_with "subscriptTail Attribute" => ((k_here; k_dflt (refine kba_turn (value' := PySem.Expr.Name (PySem.Str.ofString "_") ⟨0, 0, 0, 0⟩) (fun _ => rfl) ?_)))
  k_with "subscriptTail Subscript" => ((k_here; k_dflt (refine kba_turn (value' := PySem.Expr.Name (PySem.Str.ofString "_") ⟨0, 0, 0, 0⟩) (fun _ => rfl) ?_)))
  k_with "subscriptTail" => (wtm_at "k:fsub")
  k_with "subscriptTail Name Name ref int" => (wtm_at "k:fsub")
  k_with "subscriptTail Name Name str int" => (wtm_at "k:fsub")
  k_with "subscriptTail Name Name ref str" => (wtm_at "k:fsub")
  k_with "subscriptTail Name Constant ref int" => (wtm_at "k:fsub")
  k_with "subscriptTail Name Constant str int" => (wtm_at "k:fsub")
  k_with "subscriptTail Name Constant ref str" => (wtm_at "k:fsub")
  k_with "subscriptTail Name BinOp ref int" => (wtm_at "k:fsub")
  k_with "subscriptTail Name BinOp str int" => (wtm_at "k:fsub")
  k_with "subscriptTail Name BinOp ref str" => (wtm_at "k:fsub")
  k_with "execs cons" => ((k_here; (with_reducible refine gen_toks ?_); (intro (tk : Nat))))
  k_with "execs nil" => ((k_here; (with_reducible refine gen_toks ?_); (intro (tk : Nat))))
  k_with "getMethod ref" => ((k_here; (with_reducible show wpAny _ _ (getMethod _ (Str.ofString "get") _) _ _ _); k_dflt (refine kdg_method (knd := PySem.intKind _ _) (by k_asm) (by k_mem) (by k_asm) ?_)))
  k_with "call builtin:dict.get" => ((k_here; k_dflt (refine kdg_get2 (knd := PySem.intKind _ _) (by k_asm) (by k_mem) (by k_asm) (by k_asm) (intKind_is _ _ _ _) _ (by assumption) ?_); (try dsimp only [Option.getD])))
  trivial
section
def wayStr (b : Bool) : Str := if b then Str.ofString "behind" else Str.ofString "ahead"
/-- a cut as it lies: key, way, worth -/
def CutV (l : Led) (kv : Int × Value) (c : Int × Bool × Int) : Prop := ShP1V4P2 (kv.1 = c.1) (fun a t1 t2 n => kv.2 = .ref a) (fun a t1 t2 n => (a, tupOf [.str (wayStr c.2.1) t1, .int c.2.2 t2] n) ∈ l)
def CutsL (w : World) (l : Led) (v : Value) (cs : List (Int × Bool × Int)) : Prop := ShV3P5 (fun d o kvs => v = .ref d) (fun d o kvs => (d, o) ∈ l) (fun d o kvs => o.IsDictOf (intKind prg w) kvs) (fun d o kvs => (d == sysModules) = false) (fun d o kvs => All2 (CutV l) kvs cs)
theorem CutV.mono {l l' : Led} {kv : Int × Value} {c : Int × Bool × Int} (hs : ∀ p ∈ l, p ∈ l') (h : CutV l kv c) : CutV l' kv c := let ⟨e, a, t1, t2, n, e2, hm⟩ := h; ⟨e, a, t1, t2, n, e2, hs _ hm⟩
theorem CutsL.mono {w : World} {l l' : Led} {v : Value} {cs : List (Int × Bool × Int)} (hs : ∀ p ∈ l, p ∈ l') (h : CutsL w l v cs) : CutsL w l' v cs := let ⟨d, o, kvs, e, hm, hd, lo, ha⟩ := h; ⟨d, o, kvs, e, hs _ hm, hd, lo, ha.mono fun _ _ => CutV.mono hs⟩
def cutAt (cs : List (Int × Bool × Int)) (k : Int) : Option (Bool × Int) := (cs.find? fun c => c.1 = k).map (·.2)
def bodyOf (cs : List (Int × Bool × Int)) (k len : Int) : Int := match cutAt cs k with
  | none => len
  | some (true, w) => len - w
  | some (false, w) => w
theorem cut_look {l : Led} {k : Int} : ∀ {kvs : List (Int × Value)} {cs : List (Int × Bool × Int)}, All2 (CutV l) kvs cs →
    (valueAt kvs k = none ∧ cutAt cs k = none) ∨ ShV6P3 (fun a b x t1 t2 n => valueAt kvs k = some (.ref a)) (fun a b x t1 t2 n => cutAt cs k = some (b, x)) (fun a b x t1 t2 n => (a, tupOf [.str (wayStr b) t1, .int x t2] n) ∈ l)
  | _, _, .nil => .inl ⟨rfl, rfl⟩
  | _, _, .cons (a := kv) (b := c) h r => by
    obtain ⟨e, a, t1, t2, n, e2, hm⟩ := h
    by_cases hk : kv.1 = k
    · refine .inr ⟨a, c.2.1, c.2.2, t1, t2, n, ?_, ?_, hm⟩
      · simp [valueAt, hk, e2]
      · simp [cutAt, ← e, hk]
    · have hk' : ¬ c.1 = k := by rw [← e]; exact hk
      have ih := cut_look (k := k) r
      simp only [valueAt, cutAt, List.find?_cons, decide_eq_false hk, decide_eq_false hk'] at ih ⊢
      exact ih
theorem body_spec {w : World} {dp un : Nat} {gd : Option (List Code)} {cn : Str} {cs : Scope} {a : Addr} {ccd : Value} {cl : List (Str × Addr)} {outer : List Env} {A₀ : Around} {base h₀ : Heap} {L : Addr} {m mg mb : Str → Option Value} {mean : ExcName → Option Value} {tP : Program} {tL : List Str}
    {news : List (Addr × Obj)} {s : Shared} {R : Result → Shared → Prop} {cv : Value} {cts : List (Int × Bool × Int)} {k len : Int} {tk tl : Nat}
    (B : Below A₀ base outer h₀) (F : Fr h₀ L s.heap m) (X : (hd.heap_1 w.params).In h₀) (N : News h₀ L s.heap news) (T : Top tP tL mean mg mb h₀) (hk : cs.kind = .function)
    (hdp : dp + 150 < recursionLimit) (hun : un + 300 < cLine) (I : CutsL w news cv cts)
    (ret : ∀ t h' tks, Fr h₀ L h' m → News h₀ L h' news → R (.ok (.ret (.int (bodyOf cts k len) t))) { s with heap := h', toks := tks }) :
    codeAny (model prg w) (ktrTop dp un gd cn cs L a ccd cl outer) (.call (.ref 786) ⟨[cv, .int k tk, .int len tl], []⟩) R s := by
  obtain ⟨d, o, kvs, rfl, hm, hd, lo, hall⟩ := I
  k_dflt (refine' code_def (env := envX cn cs L a ccd cl) (outer := outer) B F X N T ?kA ?kF hk ?k6 ?k7 ?k8 ?k9 ?kB ?_ ?c2 ?c3 ?c4 ?c5; (case kA => exact rfl); (case kF => exact rfl); (case k6 => k_is); (case k7 => k_is); (case k8 => k_room); (case k9 => exact BindsTo.of_eq (binds := [(Str.ofString "cuts", .ref d), (Str.ofString "number", .int k tk), (Str.ofString "length", .int len tl)]) rfl); (case c5 => decide); (case kB => exact locs rfl); (case c2 => exact rfl); (case c3 => exact rfl); (case c4 => exact rfl); k_whole)
  intro g' L' h' FG' F' N' B' X' T'
  with_reducible refine no_raise ?_
  change wpAny _ (ktrTop (dp + 1) (un + 3) gd _ _ _ _ _ [] (envX cn cs L a ccd cl :: outer)) _ _ _ _
  clear N
  k_fold
  rcases cut_look (k := k) hall with ⟨e1, e2⟩ | ⟨ta, b, x, t1, t2, nn, e1, e2, hta⟩
  · wtm_at "k:go"
    rename_i kF kN kT kX
    have e : len - 0 = bodyOf cts k len := by unfold bodyOf; rw [e2]; show len - 0 = len; omega
    rw [e]
    exact ret _ _ _ kF (News.sub kN (by wtm_at "k:sub"))
  · cases b with
    | true =>
      have w9 : wayStr true = Str.ofString "behind" := rfl
      rw [w9] at hta
      wtm_at "k:go"
      rename_i kF kN kT kX
      have e : len - x = bodyOf cts k len := by unfold bodyOf; rw [e2]
      rw [e]
      exact ret _ _ _ kF (News.sub kN (by wtm_at "k:sub"))
    | false =>
      have w9 : wayStr false = Str.ofString "ahead" := rfl
      rw [w9] at hta
      wtm_at "k:go"
      rename_i kF kN kT kX
      have e : x = bodyOf cts k len := by unfold bodyOf; rw [e2]
      rw [e]
      exact ret _ _ _ kF (News.sub kN (by wtm_at "k:sub"))
end
section
section
variable {prog : Program} {w : World} {A : Around} {E : Value → Shared → Prop} {s : Shared} {h₀ : Heap} {L : Addr} {m : Str → Option Value} {news : Led} {value slice : PySem.Expr} {Q : Value → Shared → Prop}
/-- two lists added: a new one -/
theorem addL {l b : Addr} {vs ws : List Value} {n n' : Nat} (F : Fr h₀ L s.heap m) (N : News h₀ L s.heap news) (ha : (l, listOf (List.toArray vs) n) ∈ news) (hb : (b, listOf (List.toArray ws) n') ∈ news) (hsz : vs.length + ws.length ≤ 16777216)
    (h : ∀ D h', Fr h₀ L h' m → News h₀ L h' ((D, listOf (List.toArray (vs ++ ws)) 0) :: news) → (∀ p ∈ news, @LT.lt Nat _ p.1 D) → Q (.ref D) { s with heap := h' }) :
    wpAny (model prog w) A (binaryOp .Add (.ref l) (.ref b)) Q E s :=
  add_arrays F N (News.isList N ha) (News.isList N hb) (fun h' F' N' => h _ h' F' N' fun p hp => Heap.lt_size (N p hp).1) (hsz := by simp only [List.size_toArray]; rw [sizeLine_eq]; omega)
/-- the i-th of a list -/
theorem itemL {l : Addr} {vs : List Value} {n u : Nat} {i : Int} {v : Value} (N : News h₀ L s.heap news) (hm : (l, listOf (List.toArray vs) n) ∈ news) (h0 : 0 ≤ i) (h1 : i < 1000000) (hv : vs[i.toNat]? = some v) (h : Q v s)
    (hs : subscripted slice false (.ref l) (.int i u) = operate [.ref l, .int i u] (getItem (.ref l) (.int i u)) := by with_unfolding_all rfl) (hg : ∀ r, letTemporaryGo value (.ref l) r = pure () := by intro _; with_unfolding_all rfl) :
    wpAny (model prog w) A (subscriptTail value slice (.ref l) (.int i u)) Q E s :=
  item_list (News.isList N hm) h0 (by omega) (by simpa using hv) h hs hg
theorem itemT {l : Addr} {vs : List Value} {n u : Nat} {i : Int} {v : Value} (N : News h₀ L s.heap news) (hm : (l, tupOf vs n) ∈ news) (h0 : 0 ≤ i) (h1 : i < 1000000) (hv : vs[i.toNat]? = some v) (h : Q v s)
    (hs : subscripted slice false (.ref l) (.int i u) = operate [.ref l, .int i u] (getItem (.ref l) (.int i u)) := by with_unfolding_all rfl) :
    wpAny (model prog w) A (subscriptTail value slice (.ref l) (.int i u)) Q E s := by
  have hlt : i.toNat < vs.length := (List.getElem?_eq_some_iff.mp hv).1
  refine item_tupleT (News.isTup N hm) (by omega) (by omega) (j := i.toNat) ?_ hv h hs
  unfold seqIndex?
  simp only []
  split <;> first | (split <;> first | rfl | omega) | (simp; omega) | omega
theorem itemS {x : Str} {t u : Nat} {i : Int} {c : Nat} (h0 : 0 ≤ i) (h1 : i < 1000000) (hc : x.cps[i.toNat]? = some c) (h : Q (.str ⟨#[c]⟩ s.toks) { s with toks := s.toks + 1 })
    (hs : subscripted slice false (.str x t) (.int i u) = operate [.str x t, .int i u] (getItem (.str x t) (.int i u)) := by with_unfolding_all rfl) :
    wpAny (model prog w) A (subscriptTail value slice (.str x t) (.int i u)) Q E s := by
  have hlt : i.toNat < x.cps.size := (Array.getElem?_eq_some_iff.mp hc).1
  refine tail_any (typeIs_str s x t) F.slot_str_getitem.lookup (P.getItem_str (c := c) ?_ ?_ h) hs
  · simp; omega
  · have e : seqIndex? i x.length = some i.toNat := by
      unfold seqIndex?
      have : x.length = x.cps.size := rfl
      rw [this]
      simp only []
      split <;> first | (split <;> first | rfl | omega) | (simp; omega) | omega
    rw [e]; exact hc
end
/-- a sign's class -/
def numOf (c : Nat) : Int := if c = 97 then 1 else if c = 98 then 2 else 0
def Abn (c : Nat) : Prop := c = 97 ∨ c = 98 ∨ c = 10
theorem num_item {w : World} {A : Around} {E : Value → Shared → Prop} {s : Shared} {h₀ : Heap} {L : Addr} {m : Str → Option Value} {value slice : PySem.Expr} {Q : Value → Shared → Prop} {c t : Nat} (F : Fr h₀ L s.heap m) (X : (hd.heap_1 w.params).In h₀) (hc : Abn c)
    (h : ∀ u, Q (.int (numOf c) u) { s with toks := s.toks + 1 }) (hs : subscripted slice false (.ref 767) (.str ⟨#[c]⟩ t) = operate [.ref 767, .str ⟨#[c]⟩ t] (getItem (.ref 767) (.str ⟨#[c]⟩ t)) := by with_unfolding_all rfl) :
    wpAny (model prg w) A (subscriptTail value slice (.ref 767) (.str ⟨#[c]⟩ t)) Q E s := by
  rcases hc with rfl | rfl | rfl
  · have e : (⟨#[97]⟩ : Str) = Str.ofString "a" := by decide +kernel
    rw [e] at hs ⊢
    k_dflt (refine' topItem_K F X ?l ?k ?e ?_ hs; (case l => k_is); (case k => k_keys); (case e => k_is))
    exact h _
  · have e : (⟨#[98]⟩ : Str) = Str.ofString "b" := by decide +kernel
    rw [e] at hs ⊢
    k_dflt (refine' topItem_K F X ?l ?k ?e ?_ hs; (case l => k_is); (case k => k_keys); (case e => k_is))
    exact h _
  · have e : (⟨#[10]⟩ : Str) = Str.ofString "\n" := by decide +kernel
    rw [e] at hs ⊢
    k_dflt (refine' topItem_K F X ?l ?k ?e ?_ hs; (case l => k_is); (case k => k_keys); (case e => k_is))
    exact h _
section
variable {prog : Program} {w : World} {A : Around} {h₀ : Heap} {L : Addr} {m : Str → Option Value} {s s₁ : Shared} {env : Env} {news : Led}
/-- a for whose name is any target (a cell), the assigning left in the turn -/
theorem for_srcA {E : Value → Shared → Prop} {Q : Flow → Shared → Prop} {x : Str} {px pos : Pos} {iter : PySem.Expr} {body : List Stmt}
    (h : wpAny (model prog w) A (eval iter env) (fun xv s₁ => Hold (ShV5P3V1P4 (fun n P S m news => Src prog w A h₀ env.locals s₁ xv n P S) (fun n P S m news => Fr h₀ env.locals s₁.heap m) (fun n P S m news => News h₀ env.locals s₁.heap news) (fun n P S m news (J : Nat → (Str → Option Value) → Led → Prop) => (∀ i m nx, J i m nx → S nx)) (fun n P S m news (J : Nat → (Str → Option Value) → Led → Prop) => J 0 m news) (fun n P S m news (J : Nat → (Str → Option Value) → Led → Prop) => (∀ i v m₁ nx I oI h tk (E' : Value → Shared → Prop), i < n → P i v → J i m₁ nx → Fr h₀ env.locals h m₁ → News h₀ env.locals h ((I, oI) :: nx) → (∀ p ∈ nx, p.1 ≠ I) →
        wpAny (model prog w) A (assign (.Name x px) env v) (fun _ s' => wpAny (model prog w) A (execs body env) (TurnEnd h₀ env.locals I oI (J (i + 1)) { s₁ with heap := h, toks := tk } Q) E' s') E' { s₁ with heap := h, toks := tk })) (fun n P S m news (J : Nat → (Str → Option Value) → Led → Prop) => ∀ h' tk m' nx, Fr h₀ env.locals h' m' → News h₀ env.locals h' nx → J n m' nx → Q .next { s₁ with heap := h', toks := tk }))) E s)
    (hs : ∀ x, foldedSetIterable iter env x = pure x := by intro _; rfl) :
    wpAny (model prog w) A (exec (.For (.Name x px) iter body [] pos) env) Q E s := by
  refine wpAny_For (wpAny_mono h (fun xv s₁ h₁ => ?_) fun _ _ e => e) hs
  obtain ⟨n, P, S, m, news, hS, F, N, J, hJS, h0, turn, hR⟩ := h₁
  refine hS _ _ fun o fp St K hst hfp => ?_
  refine for_core K (fun _ _ _ _ _ _ hq => wpAny_pure hq) (Nat.ne_of_lt F.ns.lt) (next_is_new F) (fun p hp => Nat.ne_of_lt (Heap.lt_size (N p hp).1)) hst (F.push _) (N.grown fun _ _ e => Heap.get?_push_of_some _ e) J hJS h0 ?_ ?_
  · intro i v m₁ nx oI h tk E' hi hP hJ F₁ N₁ off₁
    refine wpAny_mono (turn i v m₁ nx _ oI h tk E' hi hP hJ F₁ N₁ off₁) (fun _ s₂ q => wpAny_mono q (fun f s₃ q => ?_) fun _ _ e => e) fun _ _ e => e
    cases f <;> exact q
  · intro h' tk m' nx F' N' hJ
    exact hR h' tk m' nx F' N' hJ
/-- a for over a list with a tuple of names -/
theorem for_listT {E : Value → Shared → Prop} {Q : Flow → Shared → Prop} {elts : List PySem.Expr} {kk : Nat} {px pos : Pos} {iter : PySem.Expr} {body : List Stmt} (hh : A.handled = none)
    (h : wpAny (model prog w) A (eval iter env) (fun xv s₁ => Hold (ShV5P4V1P4 (fun a vs k m news => xv = .ref a) (fun a vs k m news => (a, listOf (List.toArray vs) k) ∈ news) (fun a vs k m news => Fr h₀ env.locals s₁.heap m) (fun a vs k m news => News h₀ env.locals s₁.heap news) (fun a vs k m news (J : Nat → (Str → Option Value) → Led → Prop) => (∀ i m nx, J i m nx → (a, listOf (List.toArray vs) k) ∈ nx)) (fun a vs k m news (J : Nat → (Str → Option Value) → Led → Prop) => J 0 m news) (fun a vs k m news (J : Nat → (Str → Option Value) → Led → Prop) => (∀ i v m₁ nx I oI h tk (E' : Value → Shared → Prop), vs[i]? = some v → J i m₁ nx → Fr h₀ env.locals h m₁ → News h₀ env.locals h ((I, oI) :: nx) → (∀ p ∈ nx, p.1 ≠ I) →
        wpAny (model prog w) A (assign (.Tuple elts kk px) env v) (fun _ s' => wpAny (model prog w) A (execs body env) (TurnEnd h₀ env.locals I oI (J (i + 1)) { s₁ with heap := h, toks := tk } Q) E' s') E' { s₁ with heap := h, toks := tk })) (fun a vs k m news (J : Nat → (Str → Option Value) → Led → Prop) => ∀ h' tk m' nx, Fr h₀ env.locals h' m' → News h₀ env.locals h' nx → J vs.length m' nx → Q .next { s₁ with heap := h', toks := tk }))) E s)
    (hs : ∀ x, foldedSetIterable iter env x = pure x := by intro _; rfl) :
    wpAny (model prog w) A (exec (.For (.Tuple elts kk px) iter body [] pos) env) Q E s := by
  refine wpAny_For (wpAny_mono h (fun xv s₁ h₁ => ?_) fun _ _ e => e) hs
  obtain ⟨a, vs, k, m, news, rfl, hm, F, N, J, hJS, h0, turn, hR⟩ := h₁
  have hl := News.isList N hm
  have hlt : a < s₁.heap.objs.size := Heap.lt_size (N _ hm).1
  refine wpAny_pyIter_list hl ?_
  have W := Walks.list (prog := prog) (w := w) hh s₁.heap.objs.size a (Nat.ne_of_lt hlt) vs.toArray
  have hsz : vs.toArray.size = vs.length := by simp
  rw [hsz] at W
  have e : (fun (i : Nat) (v : Value) => vs.toArray[i]? = some v) = fun i v => vs[i]? = some v := by funext i v; simp
  rw [e] at W
  refine for_core (S := fun nw => (a, listOf (List.toArray vs) k) ∈ nw) (I := s₁.heap.objs.size) ⟨W, fun i h st => by obtain ⟨o, e, _⟩ := st.1; exact ⟨o, e⟩, ?_⟩ ?_ (Nat.ne_of_lt F.ns.lt) (next_is_new F) (fun p hp => Nat.ne_of_lt (Heap.lt_size (N p hp).1)) ⟨⟨_, Heap.get?_push_size _ rfl, rfl, rfl⟩, hl.push _⟩ (F.push _) (N.grown fun _ _ e => Heap.get?_push_of_some _ e) J hJS h0 ?_ ?_
  · intro i h h' o nw st e e' _ N' S
    exact ⟨by obtain ⟨o', q, r⟩ := st.1; rw [e] at q; cases q; exact ⟨o, e', r⟩, News.isList N' S⟩
  · intro i s' v Q' E' st hq
    cases v with
    | ref T => exact wpAny_letOwnedTupleGo_listiter st.1 hq
    | _ => exact wpAny_pure hq
  · intro i v m₁ nx oI h tk E' hi hP hJ F₁ N₁ off₁
    refine wpAny_mono (turn i v m₁ nx _ oI h tk E' hP hJ F₁ N₁ off₁) (fun _ s₂ q => wpAny_mono q (fun f s₃ q => ?_) fun _ _ e => e) fun _ _ e => e
    cases f <;> exact q
  · intro h' tk m' nx F' N' hJ
    exact hR h' tk m' nx F' N' hJ
end
theorem wpAny_joinF {M : Model} {A : Around} {α : Type} {t : Sem α} {S : Shared} {Q : α → Shared → Prop} {E : Value → Shared → Prop} (R : α → Heap → Prop)
    (h1 : wpAny M A t (fun v s' => Hold (∃ h' tk', s' = { S with heap := h', toks := tk' } ∧ R v h')) E S) (h2 : ∀ v h' tk', R v h' → Q v { S with heap := h', toks := tk' }) : wpAny M A t Q E S :=
  wpAny_mono h1 (fun v s' z => by obtain ⟨h', tk', rfl, r⟩ := z; exact h2 v h' tk' r) fun _ _ e => e
theorem lenL {w : World} {A : Around} {s : Shared} {h₀ : Heap} {L : Addr} {E Q : Value → Shared → Prop} {l : Addr} {vs : List Value} {n : Nat} {news : Led} (N : News h₀ L s.heap news) (hm : (l, listOf (List.toArray vs) n) ∈ news) (hx : vs.length ≤ 1000000) (h : Q (.int vs.length (s.toks + 1)) { s with toks := s.toks + 1 + 1 }) : wpAny (model prg w) A (call (.builtin "len") [.ref l]) Q E s := by
  refine Calls.call_len_list (News.isList N hm) (by simp; omega) ?_
  simpa using h
end
section
theorem wpAny_join {M : Model} {A : Around} {t : Sem Value} {S : Shared} {Q : Value → Shared → Prop} {E : Value → Shared → Prop} (R : Value → Heap → Prop)
    (h1 : wpAny M A t (fun v s' => Hold (∃ h' tk', s' = { S with heap := h', toks := tk' } ∧ R v h')) E S) (h2 : ∀ v h' tk', R v h' → Q v { S with heap := h', toks := tk' }) : wpAny M A t Q E S :=
  wpAny_mono h1 (fun v s' z => by obtain ⟨h', tk', rfl, r⟩ := z; exact h2 v h' tk' r) fun _ _ e => e
def stepOf (rows : List (List Int)) (st : Int) (c : Nat) : Int := if 0 ≤ st then (rows.getD st.toNat []).getD (numOf c).toNat 0 else -1
def tagsOf (tags : List (List Int)) (st : Int) : List Int := if 0 ≤ st then tags.getD st.toNat [] else []
def rowOf (cts : List (Int × Bool × Int)) (at_ : Int) (ts : List Int) (len : Int) : List (Int × Int) := (ts.filter fun k => decide (0 < bodyOf cts k len)).map fun k => (at_ + bodyOf cts k len, k)
noncomputable def dueGo (rows tags : List (List Int)) (cts : List (Int × Bool × Int)) (at_ : Int) : List Nat → Int → Int → List (Int × Int) → List (Int × Int)
  | [], _, _, f => f
  | c :: cs, st, len, f => dueGo rows tags cts at_ cs (stepOf rows st c) (len + 1) (rowOf cts at_ (tagsOf tags (stepOf rows st c)) (len + 1) ++ f)
noncomputable def dueOf (rows tags : List (List Int)) (cts : List (Int × Bool × Int)) (at_ : Nat) (codes : List Nat) : List (Int × Int) := dueGo rows tags cts at_ (codes.drop at_) 0 0 []
theorem rowOf_snoc {cts : List (Int × Bool × Int)} {at_ len k : Int} {ts : List Int} : rowOf cts at_ (ts ++ [k]) len = rowOf cts at_ ts len ++ (if 0 < bodyOf cts k len then [(at_ + bodyOf cts k len, k)] else []) := by
  unfold rowOf
  rw [List.filter_append, List.map_append]
  congr 1
  by_cases h : 0 < bodyOf cts k len <;> simp [h]
theorem rowOf_len {cts : List (Int × Bool × Int)} {at_ len : Int} {ts : List Int} : (rowOf cts at_ ts len).length ≤ ts.length := by
  unfold rowOf
  rw [List.length_map]
  exact List.length_filter_le _ _
theorem numOf_in (c : Nat) : 0 ≤ numOf c ∧ numOf c < 3 := by unfold numOf; split <;> (try split) <;> omega
theorem getD_of {α : Type} {l : List α} {i : Nat} {a d : α} (h : l[i]? = some a) : l.getD i d = a := by rw [List.getD_eq_getElem?_getD, h]; rfl
theorem stepOf_in {rows tags : List (List Int)} (H : AutoOk rows tags) {st : Int} {c : Nat} (h : st < rows.length) : -1 ≤ stepOf rows st c ∧ stepOf rows st c < rows.length := by
  unfold stepOf
  have := H.some_
  split
  · rename_i h0
    have hi : st.toNat < rows.length := by omega
    have e : rows[st.toNat]? = some rows[st.toNat] := List.getElem?_eq_getElem hi
    rw [getD_of e]
    have hm : rows[st.toNat] ∈ rows := List.getElem_mem hi
    have hw := H.wide _ hm
    have hn := numOf_in c
    have hj : (numOf c).toNat < (rows[st.toNat]).length := by omega
    rw [getD_of (List.getElem?_eq_getElem hj)]
    exact H.within _ hm _ (List.getElem_mem hj)
  · omega
theorem tagsOf_ok {rows tags : List (List Int)} (H : AutoOk rows tags) (st : Int) : (tagsOf tags st).length ≤ 4 ∧ ∀ x ∈ tagsOf tags st, 0 ≤ x ∧ x < 4 := by
  unfold tagsOf
  split
  · by_cases hi : st.toNat < tags.length
    · rw [getD_of (List.getElem?_eq_getElem hi)]
      exact ⟨H.tags4 _ (List.getElem_mem hi), H.tagsIn _ (List.getElem_mem hi)⟩
    · rw [List.getD_eq_getElem?_getD, List.getElem?_eq_none (by omega)]
      exact ⟨by decide, fun _ h => nomatch h⟩
  · exact ⟨by decide, fun _ h => nomatch h⟩
/-- a pair of ints, a list of pairs -/
def PairV (l : Led) (v : Value) (p : Int × Int) : Prop := ShV4P2 (fun a t1 t2 n => v = .ref a) (fun a t1 t2 n => (a, tupOf [.int p.1 t1, .int p.2 t2] n) ∈ l)
def FoundL (l : Led) (v : Value) (f : List (Int × Int)) : Prop := ShV3P3 (fun a vs n => v = .ref a) (fun a vs n => (a, listOf (List.toArray vs) n) ∈ l) (fun a vs n => All2 (PairV l) vs f)
theorem PairV.mono {l l' : Led} {v : Value} {p : Int × Int} (hs : ∀ p ∈ l, p ∈ l') (h : PairV l v p) : PairV l' v p := let ⟨a, t1, t2, n, e, hm⟩ := h; ⟨a, t1, t2, n, e, hs _ hm⟩
theorem FoundL.mono {l l' : Led} {v : Value} {f : List (Int × Int)} (hs : ∀ p ∈ l, p ∈ l') (h : FoundL l v f) : FoundL l' v f := let ⟨a, vs, n, e, hm, ha⟩ := h; ⟨a, vs, n, e, hs _ hm, ha.mono fun _ _ => PairV.mono hs⟩
theorem All2.app {α β : Type} {P : α → β → Prop} : ∀ {as bs as' bs'}, All2 P as bs → All2 P as' bs' → All2 P (as ++ as') (bs ++ bs')
  | _, _, _, _, .nil, h => h
  | _, _, _, _, .cons x r, h => .cons x (r.app h)
theorem IntsAre.at {vs : List Value} {ns : List Int} (h : IntsAre vs ns) (i : Nat) (v : Value) (hv : vs[i]? = some v) : ∃ k t, ns[i]? = some k ∧ v = .int k t := by
  induction h generalizing i with
  | nil => simp at hv
  | cons k t r ih =>
    cases i with
    | zero => simp at hv; exact ⟨k, t, by simp, hv.symm⟩
    | succ i => obtain ⟨k', t', h1, h2⟩ := ih i (by simpa using hv); exact ⟨k', t', by simpa using h1, h2⟩
theorem ints_get {vs : List Value} {ns : List Int} (h : IntsAre vs ns) (i : Nat) (k : Int) (hk : ns[i]? = some k) : ∃ t, vs[i]? = some (.int k t) := by
  induction h generalizing i with
  | nil => simp at hk
  | cons a t r ih =>
    cases i with
    | zero => simp at hk; subst hk; exact ⟨t, by simp⟩
    | succ i => obtain ⟨t', h1⟩ := ih i (by simpa using hk); exact ⟨t', by simpa using h1⟩
theorem row_at {rows tags : List (List Int)} {b : Led} {rvs : List Value} (H : AutoOk rows tags) (hr : All2 (RowL b) rvs rows) {st : Int} (h0 : 0 ≤ st) (h1 : st < rows.length) (c : Nat) :
    ShV4P3 (fun rj rjs n t => rvs[st.toNat]? = some (.ref rj)) (fun rj rjs n t => (rj, listOf (List.toArray rjs) n) ∈ b) (fun rj rjs n t => rjs[(numOf c).toNat]? = some (.int (stepOf rows st c) t)) := by
  have hi : st.toNat < rows.length := by omega
  have e : rows[st.toNat]? = some rows[st.toNat] := List.getElem?_eq_getElem hi
  obtain ⟨v, hv, rj, rjs, n, rfl, hm, hns⟩ := hr.get _ _ e
  have hw := H.wide _ (List.getElem_mem hi)
  have hn := numOf_in c
  have hj : (numOf c).toNat < (rows[st.toNat]).length := by omega
  obtain ⟨t, ht⟩ := ints_get hns _ _ (List.getElem?_eq_getElem hj)
  refine ⟨rj, rjs, n, t, hv, hm, ?_⟩
  rw [ht]
  unfold stepOf
  rw [if_pos h0, getD_of e, getD_of (List.getElem?_eq_getElem hj)]
theorem tag_at {rows tags : List (List Int)} {b : Led} {tvs : List Value} (H : AutoOk rows tags) (hr : All2 (TupL b) tvs tags) {st : Int} (h0 : 0 ≤ st) (h1 : st < rows.length) :
    ShV3P3 (fun tj tjs n => tvs[st.toNat]? = some (.ref tj)) (fun tj tjs n => (tj, tupOf tjs n) ∈ b) (fun tj tjs n => IntsAre tjs (tagsOf tags st)) := by
  have hi : st.toNat < tags.length := by have := H.same; omega
  have e : tags[st.toNat]? = some tags[st.toNat] := List.getElem?_eq_getElem hi
  obtain ⟨v, hv, rj, rjs, n, rfl, hm, hns⟩ := hr.get _ _ e
  refine ⟨rj, rjs, n, hv, hm, ?_⟩
  unfold tagsOf
  rw [if_pos h0, getD_of e]
  exact hns
end
theorem lines4 : True := by
  w_top off
  k_with_none
  k_with "k:k1" => ((first | (k_unfold; (try dsimp only)) | (k_end; wrow_close) | walk1 | (dsimp only; walk1) | (leave1; walk_say "STEP leave1"; try dsimp only) | fail "no step"))
  k_with "k:mem" => (first | exact List.mem_cons_self | ktr_member | (refine List.mem_cons_of_mem _ ?_; wtm_at "k:mem") | (refine List.mem_append_left _ ?_; wtm_at "k:mem") | (refine List.mem_append_right _ ?_; wtm_at "k:mem"))
  k_with "k:sub" => (first | with_reducible exact sub_refl | with_reducible assumption | with_reducible exact sub_nil | (with_reducible refine sub_of_cons ?_ ?_; (focus (wtm_at "k:mem")); wtm_at "k:sub") | (with_reducible refine sub_of_app ?_ ?_; (focus (wtm_at "k:sub")); wtm_at "k:sub") | (with_reducible refine sub_cons ?_; wtm_at "k:sub") | (with_reducible refine sub_appl ?_; wtm_at "k:sub") | (with_reducible refine sub_appr ?_; wtm_at "k:sub"))
  k_with "k:front" => (first | exact Front.head | exact Front.tail (by wtm_at "k:front") | exact Front.app (by wtm_at "k:front"))
  k_with "eval Name" => ((k_here; (fail_if_success (fail_if_success ((with_reducible refine loc_first ?_ ?_); (focus (k_dflt rfl))))); k_dflt (refine' nameX_L (by k_asm) (by first | rfl | assumption) ?_ (by rfl) (by rfl); k_whole)))
  k_with "eval Name" => ((k_here; (with_reducible show wpAny _ _ (eval (Expr.Name _ _) (envX _ _ _ _ _ _)) _ _ _); k_dflt (first
  | (refine' nameX_L (by k_asm) (by first | rfl | assumption) ?_ (by rfl) (by rfl); k_whole)
  | (refine' nameX_F (by k_asm) (by rfl) (by k_mem) (by k_asm) ?_ (by rfl) (by rfl); k_whole)
  | (refine' nameX_C (by k_asm) (by rfl) (by k_mem) (by k_asm) ?_ (by rfl) (by rfl); k_whole)
  | (refine' nameX_K (by k_asm) (by k_asm) (by k_asm) (by k_is) ?_ (by rfl) (by rfl); k_whole)
  | (refine' nameX_B (by k_asm) (by k_asm) (by k_asm) (by k_is) (by boot_fast) (by decide) ?_ (by rfl) (by rfl); k_whole))))
  k_with "k:all" => (first | with_reducible assumption | exact List.forall_mem_nil _ | (with_reducible refine List.forall_mem_cons.mpr ⟨?_, ?_⟩; (focus k_ne); wtm_at "k:all") | (with_reducible refine List.forall_mem_append.mpr ⟨?_, ?_⟩; (focus (wtm_at "k:all")); wtm_at "k:all") | exact Ap.ne (by with_reducible assumption) (by wtm_at "k:mem") | exact lts_ne (by with_reducible assumption) (by omega) | exact gts_ne (by with_reducible assumption) (by omega) | exact lts_sub_ne (by with_reducible assumption) (by wtm_at "k:sub"))
  k_with "callWith ref" => ((k_here; k_dflt (refine' callWith_F (TakeIn.fnAt (by k_asm) (by assumption) (by wtm_at "k:sub")) ?_)))
  k_with "And" => (((with_reducible show FnAt _ _ ∧ _); refine' ⟨TakeIn.fnAt (by k_asm) (by assumption) (by wtm_at "k:sub"), ?_⟩; try dsimp only [List.nil_append, List.cons_append]))
  k_with "call ref" => ((k_here; k_dflt (refine' take_call (by assumption) (by k_asm) (by k_asm) (by k_asm) (by k_asm) (by k_asm) (by wtm_at "k:front") (by wtm_at "k:sub") (by wtm_at "k:all") (by first | assumption | rfl) (by assumption) (by omega) (by omega) (by omega) (by omega) (by omega) (by omega) ?_); intro _ _ _ _ _ _ _ _ _; (try k_sweep)))
  k_with "k:haltX" => ((with_reducible show wpAny _ _ (exec (Stmt.Assign _ (Expr.ListComp _ _ _ _) _) _) _ _ _))
  k_with "k:haltX" => ((with_reducible show wpAny _ _ (exec (Stmt.For _ _ _ _ _) _) _ _ _))
  k_with "k:haltE" => ((with_reducible show wpAny _ _ (eval (Expr.ListComp _ _ _ _) _) _ _ _))
  k_with "k:halt" => (wtm_at "k:haltO")
  k_with "k:halt" => (wtm_at "k:haltE")
  k_with "k:halt" => (wtm_at "k:haltX")
  k_with "k:go" => ((try k_fold); repeat' ((fail_if_success (wtm_at "k:halt")); wtm_at "k:k1"))
  k_with "k:haltO" => ((with_reducible show LCg.CompEnd _ _ _ _ _ _ _ _ _ _ _ _ _ _))
  k_with "k:haltO" => ((with_reducible show TurnEnd _ _ _ _ _ _ _ _ _))
  k_with "call type:tuple" => ((k_here; (with_reducible show wpAny _ _ (call (Value.type _) [Value.ref _]) _ _ _); k_dflt (refine' kde_tupleOf (by k_asm) (by k_asm) (by exact News.isList (by k_asm) (by k_mem)) (by ((have hq9 := IntsAre.length (by assumption)); (simp only [List.size_toArray]); omega)) (by rfl) ?_; k_whole); intro _ _ _ _ l1; (try k_lt l1); (try k_sweep)); (try (revert l1; intro _)))
  k_with "k:haltE" => ((with_reducible show wpAny _ _ (call (Value.builtin "list.append") _) _ _ _))
  k_with "subscriptTail Attribute" => ((k_here; k_dflt (refine kba_turn (value' := PySem.Expr.Name (PySem.Str.ofString "_") ⟨0, 0, 0, 0⟩) (fun _ => rfl) ?_)))
  k_with "subscriptTail Subscript" => ((k_here; k_dflt (refine kba_turn (value' := PySem.Expr.Name (PySem.Str.ofString "_") ⟨0, 0, 0, 0⟩) (fun _ => rfl) ?_)))
  k_with "subscriptTail" => (wtm_at "k:fsub")
  k_with "subscriptTail Name Name ref int" => (wtm_at "k:fsub")
  k_with "subscriptTail Name Name str int" => (wtm_at "k:fsub")
  k_with "subscriptTail Name Name ref str" => (wtm_at "k:fsub")
  k_with "subscriptTail Name Constant ref int" => (wtm_at "k:fsub")
  k_with "subscriptTail Name Constant str int" => (wtm_at "k:fsub")
  k_with "subscriptTail Name Constant ref str" => (wtm_at "k:fsub")
  k_with "subscriptTail Name BinOp ref int" => (wtm_at "k:fsub")
  k_with "subscriptTail Name BinOp str int" => (wtm_at "k:fsub")
  k_with "subscriptTail Name BinOp ref str" => (wtm_at "k:fsub")
  k_with "execs cons" => ((k_here; (with_reducible refine gen_toks ?_); (intro (tk : Nat))))
  k_with "execs nil" => ((k_here; (with_reducible refine gen_toks ?_); (intro (tk : Nat))))
  trivial
section
/-- an attribute as it lies in an instance's dict -/
abbrev att (w : World) (name : String) (t : Tok) (v : Value) : DictEntry := { hash := PyData.keyHash w.params (Str.ofString name), key := .str (Str.ofString name) t, val := v }
def DfaL (w : World) (l : Led) (v : Value) (rows tags : List (List Int)) : Prop := ShV6P5 (fun x dx rv tv t1 t2 => v = .ref x) (fun x dx rv tv t1 t2 => (x, instObj 146 dx) ∈ l) (fun x dx rv tv t1 t2 => (dx, dictOf [att w "rows" t1 rv, att w "tags" t2 tv] 2) ∈ l) (fun x dx rv tv t1 t2 => RowsL l rv rows) (fun x dx rv tv t1 t2 => TagsL l tv tags)
theorem DfaL.mono {w : World} {l l' : Led} {v : Value} {r t : List (List Int)} (hs : ∀ p ∈ l, p ∈ l') (h : DfaL w l v r t) : DfaL w l' v r t := let ⟨x, dx, rv, tv, t1, t2, e, h1, h2, h3, h4⟩ := h; ⟨x, dx, rv, tv, t1, t2, e, hs _ h1, hs _ h2, h3.mono hs, h4.mono hs⟩
theorem dfa_make {w : World} {dp un : Nat} {gd : Option (List Code)} {cn : Str} {cs : Scope} {a : Addr} {ccd : Value} {cl : List (Str × Addr)} {outer : List Env} {A₀ : Around} {base h₀ : Heap} {L : Addr} {m mg mb : Str → Option Value} {mean : ExcName → Option Value} {tP : Program} {tL : List Str}
    {news : List (Addr × Obj)} {s : Shared} {Q E : Value → Shared → Prop} {rv tv : Value}
    (B : Below A₀ base outer h₀) (F : Fr h₀ L s.heap m) (X : (hd.heap_1 w.params).In h₀) (N : News h₀ L s.heap news) (T : Top tP tL mean mg mb h₀) (hk : cs.kind = .function)
    (hdp : dp + 150 < recursionLimit) (hun : un + 300 < cLine)
    (ret : ∀ x dx t1 t2 h' tks, Fr h₀ L h' m → News h₀ L h' ((x, instObj 146 dx) :: (dx, dictOf [att w "rows" t1 rv, att w "tags" t2 tv] 2) :: news) → (∀ p ∈ news, @LT.lt Nat _ p.1 dx) → @LT.lt Nat _ dx x → Q (.ref x) { s with heap := h', toks := tks }) :
    wpAny (model prg w) (ktrTop dp un gd cn cs L a ccd cl outer) (call (.ref 146) [rv, tv]) Q E s := by
  obtain ⟨kd, nm, b1, b2, mo⟩ := cs
  cases hk
  wtm_at "k:k1"
  rename_i x dx _ _ _ l1 l1' l2 _ _ _ _ _ _ _ _ _
  wtm_at "k:go"
  rename_i kF kN _ _
  exact ret _ _ _ _ _ _ kF kN l1 l2
end
section
/-- the ends, in the order in which they are found -/
def nxt (rows : List (List Int)) (st n : Int) : Int := (rows.getD st.toNat []).getD n.toNat 0
noncomputable def endsGo (rows tags : List (List Int)) : List Int → Int → Int → List (Int × List Int) → List (Int × List Int)
  | [], _, _, f => f
  | n :: ns, st, e, f => if nxt rows st n = -1 then f else endsGo rows tags ns (nxt rows st n) (e + 1) (if tags.getD (nxt rows st n).toNat [] = [] then f else f ++ [(e + 1, tags.getD (nxt rows st n).toNat [])])
noncomputable def endsOf (rows tags : List (List Int)) (at_ : Nat) (ns : List Int) : List (Int × List Int) := (endsGo rows tags (ns.drop at_) 0 at_ []).reverse
def EndV (l : Led) (v : Value) (p : Int × List Int) : Prop := ShV4P3 (fun a t tv n => v = .ref a) (fun a t tv n => (a, tupOf [.int p.1 t, tv] n) ∈ l) (fun a t tv n => TupL l tv p.2)
def EndsL (l : Led) (v : Value) (f : List (Int × List Int)) : Prop := ShV3P3 (fun a vs n => v = .ref a) (fun a vs n => (a, listOf (List.toArray vs) n) ∈ l) (fun a vs n => All2 (EndV l) vs f)
theorem EndV.mono {l l' : Led} {v : Value} {p : Int × List Int} (hs : ∀ p ∈ l, p ∈ l') (h : EndV l v p) : EndV l' v p := let ⟨a, t, tv, n, e, hm, h3⟩ := h; ⟨a, t, tv, n, e, hs _ hm, h3.mono hs⟩
theorem All2.rev {α β : Type} {P : α → β → Prop} : ∀ {as bs}, All2 P as bs → All2 P as.reverse bs.reverse
  | _, _, .nil => .nil
  | _, _, .cons x r => by rw [List.reverse_cons, List.reverse_cons]; exact r.rev.snoc x
theorem nxt_at {rows tags : List (List Int)} {b : Led} {rvs : List Value} (H : AutoOk rows tags) (hr : All2 (RowL b) rvs rows) {st n : Int} (h0 : 0 ≤ st) (h1 : st < rows.length) (hn0 : 0 ≤ n) (hn : n < 3) :
    ShV4P6 (fun rj rjs k t => rvs[st.toNat]? = some (.ref rj)) (fun rj rjs k t => (rj, listOf (List.toArray rjs) k) ∈ b) (fun rj rjs k t => rjs.length = 3) (fun rj rjs k t => rjs[n.toNat]? = some (.int (nxt rows st n) t)) (fun rj rjs k t => -1 ≤ nxt rows st n) (fun rj rjs k t => nxt rows st n < rows.length) := by
  have hi : st.toNat < rows.length := by omega
  have e : rows[st.toNat]? = some rows[st.toNat] := List.getElem?_eq_getElem hi
  obtain ⟨v, hv, rj, rjs, k, rfl, hm, hns⟩ := hr.get _ _ e
  have hw := H.wide _ (List.getElem_mem hi)
  have hj : n.toNat < (rows[st.toNat]).length := by omega
  obtain ⟨t, ht⟩ := ints_get hns _ _ (List.getElem?_eq_getElem hj)
  have e2 : nxt rows st n = rows[st.toNat][n.toNat] := by unfold nxt; rw [getD_of e, getD_of (List.getElem?_eq_getElem hj)]
  have e3 := H.within _ (List.getElem_mem hi) _ (List.getElem_mem hj)
  have e4 := IntsAre.length hns
  rw [e2]
  exact ⟨rj, rjs, k, t, hv, hm, by omega, ht, e3.1, e3.2⟩
theorem tagL_at {rows tags : List (List Int)} {b : Led} {tvs : List Value} (H : AutoOk rows tags) (hr : All2 (TupL b) tvs tags) {st : Int} (h0 : 0 ≤ st) (h1 : st < rows.length) :
    ShV3P3 (fun tj tjs n => tvs[st.toNat]? = some (.ref tj)) (fun tj tjs n => (tj, tupOf tjs n) ∈ b) (fun tj tjs n => IntsAre tjs (tags.getD st.toNat [])) := by
  have := tag_at H hr h0 h1
  rwa [tagsOf, if_pos h0] at this
end
theorem lines6 : True := by
  w_top off
  k_with_none
  k_with "k:k1" => ((first | (k_unfold; (try dsimp only)) | (k_end; wrow_close) | walk1 | (dsimp only; walk1) | (leave1; walk_say "STEP leave1"; try dsimp only) | fail "no step"))
  k_with "k:mem" => (first | exact List.mem_cons_self | ktr_member | (refine List.mem_cons_of_mem _ ?_; wtm_at "k:mem") | (refine List.mem_append_left _ ?_; wtm_at "k:mem") | (refine List.mem_append_right _ ?_; wtm_at "k:mem"))
  k_with "k:sub" => (first | with_reducible exact sub_refl | with_reducible assumption | with_reducible exact sub_nil | (with_reducible refine sub_of_cons ?_ ?_; (focus (wtm_at "k:mem")); wtm_at "k:sub") | (with_reducible refine sub_of_app ?_ ?_; (focus (wtm_at "k:sub")); wtm_at "k:sub") | (with_reducible refine sub_cons ?_; wtm_at "k:sub") | (with_reducible refine sub_appl ?_; wtm_at "k:sub") | (with_reducible refine sub_appr ?_; wtm_at "k:sub"))
  k_with "k:front" => (first | exact Front.head | exact Front.tail (by wtm_at "k:front") | exact Front.app (by wtm_at "k:front"))
  k_with "eval Name" => ((k_here; (fail_if_success (fail_if_success ((with_reducible refine loc_first ?_ ?_); (focus (k_dflt rfl))))); k_dflt (refine' nameX_L (by k_asm) (by first | rfl | assumption) ?_ (by rfl) (by rfl); k_whole)))
  k_with "eval Name" => ((k_here; (with_reducible show wpAny _ _ (eval (Expr.Name _ _) (envX _ _ _ _ _ _)) _ _ _); k_dflt (first
  | (refine' nameX_L (by k_asm) (by first | rfl | assumption) ?_ (by rfl) (by rfl); k_whole)
  | (refine' nameX_F (by k_asm) (by rfl) (by k_mem) (by k_asm) ?_ (by rfl) (by rfl); k_whole)
  | (refine' nameX_C (by k_asm) (by rfl) (by k_mem) (by k_asm) ?_ (by rfl) (by rfl); k_whole)
  | (refine' nameX_K (by k_asm) (by k_asm) (by k_asm) (by k_is) ?_ (by rfl) (by rfl); k_whole)
  | (refine' nameX_B (by k_asm) (by k_asm) (by k_asm) (by k_is) (by boot_fast) (by decide) ?_ (by rfl) (by rfl); k_whole))))
  k_with "k:all" => (first | with_reducible assumption | exact List.forall_mem_nil _ | (with_reducible refine List.forall_mem_cons.mpr ⟨?_, ?_⟩; (focus k_ne); wtm_at "k:all") | (with_reducible refine List.forall_mem_append.mpr ⟨?_, ?_⟩; (focus (wtm_at "k:all")); wtm_at "k:all") | exact Ap.ne (by with_reducible assumption) (by wtm_at "k:mem") | exact lts_ne (by with_reducible assumption) (by omega) | exact gts_ne (by with_reducible assumption) (by omega) | exact lts_sub_ne (by with_reducible assumption) (by wtm_at "k:sub"))
  k_with "callWith ref" => ((k_here; k_dflt (refine' callWith_F (TakeIn.fnAt (by k_asm) (by assumption) (by wtm_at "k:sub")) ?_)))
  k_with "And" => (((with_reducible show FnAt _ _ ∧ _); refine' ⟨TakeIn.fnAt (by k_asm) (by assumption) (by wtm_at "k:sub"), ?_⟩; try dsimp only [List.nil_append, List.cons_append]))
  k_with "call ref" => ((k_here; k_dflt (refine' take_call (by assumption) (by k_asm) (by k_asm) (by k_asm) (by k_asm) (by k_asm) (by wtm_at "k:front") (by wtm_at "k:sub") (by wtm_at "k:all") (by first | assumption | rfl) (by assumption) (by omega) (by omega) (by omega) (by omega) (by omega) (by omega) ?_); intro _ _ _ _ _ _ _ _ _; (try k_sweep)))
  k_with "k:haltX" => ((with_reducible show wpAny _ _ (exec (Stmt.Assign _ (Expr.ListComp _ _ _ _) _) _) _ _ _))
  k_with "k:haltX" => ((with_reducible show wpAny _ _ (exec (Stmt.For _ _ _ _ _) _) _ _ _))
  k_with "k:haltE" => ((with_reducible show wpAny _ _ (eval (Expr.ListComp _ _ _ _) _) _ _ _))
  k_with "k:halt" => (wtm_at "k:haltO")
  k_with "k:halt" => (wtm_at "k:haltE")
  k_with "k:halt" => (wtm_at "k:haltX")
  k_with "k:go" => ((try k_fold); repeat' ((fail_if_success (wtm_at "k:halt")); wtm_at "k:k1"))
  k_with "k:haltO" => ((with_reducible show LCg.CompEnd _ _ _ _ _ _ _ _ _ _ _ _ _ _))
  k_with "k:haltO" => ((with_reducible show TurnEnd _ _ _ _ _ _ _ _ _))
  k_with "call type:tuple" => ((k_here; (with_reducible show wpAny _ _ (call (Value.type _) [Value.ref _]) _ _ _); k_dflt (refine' kde_tupleOf (by k_asm) (by k_asm) (by exact News.isList (by k_asm) (by k_mem)) (by ((have hq9 := IntsAre.length (by assumption)); (simp only [List.size_toArray]); omega)) (by rfl) ?_; k_whole); intro _ _ _ _ l1; (try k_lt l1); (try k_sweep)); (try (revert l1; intro _)))
  k_with "k:haltE" => ((with_reducible show wpAny _ _ (call (Value.builtin "list.append") _) _ _ _))
  k_with "subscriptTail Attribute" => ((k_here; k_dflt (refine kba_turn (value' := PySem.Expr.Name (PySem.Str.ofString "_") ⟨0, 0, 0, 0⟩) (fun _ => rfl) ?_)))
  k_with "subscriptTail Subscript" => ((k_here; k_dflt (refine kba_turn (value' := PySem.Expr.Name (PySem.Str.ofString "_") ⟨0, 0, 0, 0⟩) (fun _ => rfl) ?_)))
  k_with "subscriptTail" => (wtm_at "k:fsub")
  k_with "subscriptTail Name Name ref int" => (wtm_at "k:fsub")
  k_with "subscriptTail Name Name str int" => (wtm_at "k:fsub")
  k_with "subscriptTail Name Name ref str" => (wtm_at "k:fsub")
  k_with "subscriptTail Name Constant ref int" => (wtm_at "k:fsub")
  k_with "subscriptTail Name Constant str int" => (wtm_at "k:fsub")
  k_with "subscriptTail Name Constant ref str" => (wtm_at "k:fsub")
  k_with "subscriptTail Name BinOp ref int" => (wtm_at "k:fsub")
  k_with "subscriptTail Name BinOp str int" => (wtm_at "k:fsub")
  k_with "subscriptTail Name BinOp ref str" => (wtm_at "k:fsub")
  k_with "execs cons" => ((k_here; (with_reducible refine gen_toks ?_); (intro (tk : Nat))))
  k_with "execs nil" => ((k_here; (with_reducible refine gen_toks ?_); (intro (tk : Nat))))
  k_with "execs cons" => ((k_here; (fail_if_success (with_reducible refine gen_toks ?_)); (fail_if_success k_made); (with_reducible refine execs_cont ?_)))
  k_with "call builtin:len" => ((k_here; (with_reducible show wpAny _ _ (call (Value.builtin "len") [Value.str _ _]) _ _ _); (refine lenS (by omega) ?_)))
  k_with "subscriptTail Name Name str int" => ((k_here; (with_reducible show wpAny _ _ (subscriptTail _ _ (Value.str _ _) (Value.int _ _)) _ _ _); k_dflt (refine' itemS (by omega) (by omega) (by assumption) ?_)))
  k_with "k:haltE" => ((with_reducible show wpAny _ _ (eval (Expr.IfExp _ _ _ _) _) _ _ _))
  k_with "k:haltO" => ((with_reducible show Hold _))
  k_with "call ref" => ((k_here; k_dflt (refine wpAny_call ?_; refine' body_spec (by k_asm) (by k_asm) (by k_asm) (by k_asm) (by k_asm) (by first | assumption | rfl) (by omega) (by omega) (by (refine CutsL.mono ?_ (by assumption); wtm_at "k:sub")) ?_); intro _ _ _ _ _; (try dsimp only); (try k_sweep)))
  k_with "k:fsub" => ((k_here; (with_reducible show wpAny _ _ (subscriptTail _ _ (Value.str _ _) (Value.int _ _)) _ _ _); k_dflt (refine' itemS (by omega) (by omega) (by assumption) ?_)))
  k_with "k:fsub" => ((k_here; (with_reducible show wpAny _ _ (subscriptTail _ _ (Value.ref _) (Value.str _ _)) _ _ _); k_dflt (refine' num_item (by k_asm) (by k_asm) (by assumption) ?_); intro _))
  k_with "k:fsub" => ((k_here; (with_reducible show wpAny _ _ (subscriptTail _ _ (Value.ref _) (Value.int _ _)) _ _ _); k_dflt (refine' itemL (by k_asm) (by k_mem) (by omega) (by omega) (by assumption) ?_)))
  k_with "binaryOp Add ref ref" => ((k_here; k_dflt (refine' addL (by k_asm) (by k_asm) (by k_mem) (by k_mem) (by omega) ?_); intro _ _ _ _ l1; (try k_lt l1); (try k_sweep)); (try (revert l1; intro _)))
  trivial
section
theorem lenS {prog : Program} {w : World} {A : Around} {s : Shared} {E Q : Value → Shared → Prop} {x : Str} {t : Tok} (hx : x.cps.size ≤ 1000000) (h : Q (.int x.cps.size (s.toks + 1)) { s with toks := s.toks + 1 + 1 }) : wpAny (model prog w) A (call (.builtin "len") [.str x t]) Q E s :=
  P.len_str (by show ¬ ((x.cps.size : Nat) : Int) ≥ 2 ^ 63; omega) h
theorem due_spec {w : World} {dp un : Nat} {gd : Option (List Code)} {cn : Str} {cs : Scope} {a : Addr} {ccd : Value} {cl : List (Str × Addr)} {outer : List Env} {A₀ : Around} {base h₀ : Heap} {L : Addr} {m mg mb : Str → Option Value} {mean : ExcName → Option Value} {tP : Program} {tL : List Str}
    {news : List (Addr × Obj)} {s : Shared} {R : Result → Shared → Prop} {av cv : Value} {rows tags : List (List Int)} {cts : List (Int × Bool × Int)} {x : Str} {tx : Tok} {at_ : Nat} {ta : Tok}
    (B : Below A₀ base outer h₀) (F : Fr h₀ L s.heap m) (X : (hd.heap_1 w.params).In h₀) (N : News h₀ L s.heap news) (T : Top tP tL mean mg mb h₀) (hk : cs.kind = .function)
    (hdp : dp + 250 < recursionLimit) (hun : un + 500 < cLine) (I : AutoL news av rows tags) (H : AutoOk rows tags) (C : CutsL w news cv cts) (hx : ∀ (i c : Nat), x.cps[i]? = some c → Abn c) (hx6 : x.cps.size ≤ 6) (hat : at_ ≤ x.cps.size)
    (ret : ∀ v tl h' tks, FoundL tl v (dueOf rows tags cts at_ x.cps.toList) → Fr h₀ L h' m → News h₀ L h' (tl ++ news) → Ap tl (news.map (·.1)) → R (.ok (.ret v)) { s with heap := h', toks := tks }) :
    codeAny (model prg w) (ktrTop dp un gd cn cs L a ccd cl outer) (.call (.ref 791) ⟨[av, cv, .str x tx, .int at_ ta], []⟩) R s := by
  k_dflt (refine' code_defC (env := envX cn cs L a ccd cl) (outer := outer) B F X N T ?kA ?kF hk ?k6 ?k7 ?k8 ?k9 ?kB ?kD ?_ ?c2 ?c3 ?c4; (case kA => exact rfl); (case kF => exact rfl); (case k6 => k_is); (case k7 => k_is); (case k8 => k_room); (case k9 => exact BindsTo.of_eq (binds := [(Str.ofString "automaton", av), (Str.ofString "cuts", cv), (Str.ofString "text", .str x tx), (Str.ofString "at", .int at_ ta)]) rfl); (case kB => exact rfl); (case kD => decide +kernel); (case c2 => exact rfl); (case c3 => exact rfl); (case c4 => exact rfl); k_whole)
  intro g' L' h' tk' cells' FG' F' N' Y' B' X' T' l1
  with_reducible refine no_raise ?_
  obtain ⟨o1, o2, o3, hE', d1, d2, d3⟩ := CellsAre.three Y'
  subst hE'; clear Y'
  simp only [List.cons_append, List.nil_append] at N'
  replace d1 : o1.data = .cell none := d1
  replace d2 : o2.data = .cell (some (.int at_ ta)) := d2
  replace d3 : o3.data = .cell (some cv) := d3
  obtain ⟨aa, rv, tv, na, rfl, maa, ⟨ra, rvs, nr, rfl, mra, hrows⟩, ⟨tga, tvs, nt, rfl, mta, htags⟩⟩ := I
  have lnews : ∀ p ∈ news, @LT.lt Nat _ p.1 L' := l1
  k_lt l1
  change wpAny _ (ktrTop (dp + 1) (un + 3) gd _ _ _ _ _ _ (envX cn cs L a ccd cl :: outer)) _ _ _ _
  dsimp only
  k_fold
  clear N
  wtm_at "k:go"
  k_dflt (refine for_srcA (h₀ := g') ?_)
  wtm_at "k:go"
  rename_i lf hx0 llf llf' hx1 hx2 F2 N2 _ h3 tk3 t31 t32 t33 hr3 F3 N3 keep3
  obtain ⟨b, hb⟩ : ∃ b : Led, b = (L' + 1 + 1, o2) :: (L' + 1, o3) :: news := ⟨_, rfl⟩
  have mb2 : (L' + 1 + 1, o2) ∈ b := by rw [hb]; wtm_at "k:mem"
  have mb3 : (L' + 1, o3) ∈ b := by rw [hb]; wtm_at "k:mem"
  have sb : ∀ p ∈ news, p ∈ b := by rw [hb]; wtm_at "k:sub"
  have Cb : CutsL w b cv cts := C.mono sb
  have ma : (aa, tupOf [.ref ra, .ref tga] na) ∈ b := sb _ maa
  have mr : (ra, listOf rvs.toArray nr) ∈ b := sb _ mra
  have mt : (tga, listOf tvs.toArray nt) ∈ b := sb _ mta
  have hrb : All2 (RowL b) rvs rows := hrows.mono fun _ _ => RowL.mono sb
  have htb : All2 (TupL b) tvs tags := htags.mono fun _ _ => TupL.mono sb
  have ofb : ∀ p ∈ b, p.1 ≠ L' + 1 + 1 + 1 := by rw [hb]; wtm_at "k:all"
  obtain ⟨z, hz⟩ : ∃ z : Nat, x.cps.size = at_ + z := ⟨x.cps.size - at_, by omega⟩
  first | delta Hold | ((try k_unmd); k_unfold; delta Hold) | (show Hold _; delta Hold)
  refine ⟨z, _, _, _, (L' + 1 + 1 + 1, o1) :: ([(lf, listOf (List.toArray []) 0)] ++ b), Src.range (n := z) rfl hr3 (small_one (by omega) (by omega) (by omega) (by omega)) (by rw [rangeSize_nat]; congr 1; omega), F3, by rw [hb]; exact News.sub N3 (by simp only [List.cons_append, List.nil_append]; wtm_at "k:sub"), fun i m nx => ShV7P12 (fun oe vm st tq f tl fv => nx = (L' + 1 + 1 + 1, oe) :: (tl ++ b)) (fun oe vm st tq f tl fv => oe.data = .cell vm) (fun oe vm st tq f tl fv => m (Str.ofString "automaton") = some (.ref aa)) (fun oe vm st tq f tl fv => m (Str.ofString "text") = some (.str x tx)) (fun oe vm st tq f tl fv => m (Str.ofString "state") = some (.int st tq)) (fun oe vm st tq f tl fv => m (Str.ofString "found") = some fv) (fun oe vm st tq f tl fv => FoundL tl fv f) (fun oe vm st tq f tl fv => -1 ≤ st) (fun oe vm st tq f tl fv => st < rows.length) (fun oe vm st tq f tl fv => f.length ≤ 4 * i) (fun oe vm st tq f tl fv => dueGo rows tags cts at_ (x.cps.toList.drop (at_ + i)) st i f = dueOf rows tags cts at_ x.cps.toList) (fun oe vm st tq f tl fv => Ap tl ((L' + 1 + 1 + 1) :: b.map (·.1))), fun _ _ _ _ => trivial, ?j0, ?turn, ?fin⟩
  case j0 =>
    have hsm := H.some_
    refine ⟨o1, _, 0, _, [], [(lf, listOf (List.toArray []) 0)], _, rfl, d1, rfl, rfl, rfl, rfl, ⟨lf, [], 0, rfl, List.mem_cons_self, .nil⟩, by omega, by omega, Nat.le_refl _, rfl, ?_⟩
    exact Ap.nil.cons (List.forall_mem_cons.mpr ⟨Nat.ne_of_gt llf'.1, adr_lt llf (by rw [hb]; wtm_at "k:sub")⟩)
  case turn =>
    intro i v m₁ nx I0 oI h tk E' hi hP hJ F4 N4 off4
    obtain ⟨oe, vm, st, tq, f, tl, fv, rfl, hoe, hma, hmx, hms, hmf, ⟨fa, fvs, fn, rfl, hfa, hfs⟩, hs0, hs1, hfl, hgo, hap⟩ := hJ
    obtain ⟨te, rfl⟩ := hP
    change Fr g' L' h _ at F4
    change News g' L' h _ at N4
    have hfl2 : fvs.length ≤ 4 * i := by rw [All2.length hfs]; exact hfl
    have z1 : @Ne Nat (L' + 1 + 1 + 1) I0 := off4 (L' + 1 + 1 + 1, oe) (by wtm_at "k:mem")
    have w1 : ∀ p ∈ tl, p.1 ≠ I0 := fun p hp => off4 p (List.mem_cons_of_mem _ (List.mem_append_left _ hp))
    have w2 : ∀ p ∈ b, p.1 ≠ I0 := fun p hp => off4 p (List.mem_cons_of_mem _ (List.mem_append_right _ hp))
    have z5 := hap.ne (b := L' + 1 + 1 + 1) (by wtm_at "k:mem")
    obtain ⟨c, hc⟩ : ∃ c, x.cps[at_ + i]? = some c := ⟨_, Array.getElem?_eq_getElem (by omega)⟩
    have hcn := hx _ _ hc
    have hfew := H.few
    clear N3
    wtm_at "k:go"
    rename_i h5 oe' F5 N5 d5
    k_dflt (refine wpAny_join (fun v h' => ∃ u, v = .int (stepOf rows st c) u ∧ Fr g' L' h' m₁ ∧ News g' L' h' ((I0, oI) :: (L' + 1 + 1 + 1, oe') :: (tl ++ b))) ?h1 ?h2)
    case h1 =>
      by_cases hst : 0 ≤ st
      · obtain ⟨rj, rjs, rn, rt, e1, hrj, e2⟩ := row_at H hrb hst hs1 c
        have hn := numOf_in c
        have hc' : x.cps[((at_ : Int) + (i : Int)).toNat]? = some c := hc
        wtm_at "k:k1"
        wtm_at "k:go"
        exact ⟨_, _, rfl, _, rfl, F5, N5⟩
      · wtm_at "k:k1"
        wtm_at "k:go"
        have e : stepOf rows st c = -1 := if_neg hst
        rw [e]
        exact ⟨_, _, rfl, _, rfl, F5, N5⟩
    case h2 =>
      rintro _ h6 tk6 ⟨u6, rfl, F6, N6⟩
      obtain ⟨hs2, hs3⟩ := stepOf_in H (c := c) hs1
      obtain ⟨st2, hst2⟩ : ∃ st2, st2 = stepOf rows st c := ⟨_, rfl⟩
      rw [← hst2] at hs2 hs3 ⊢
      wtm_at "k:go"
      rename_i h7 F7 N7
      k_dflt (refine wpAny_join (fun v h' => ShV4P6 (fun ta' vs n tl2 => v = .ref ta') (fun ta' vs n tl2 => (ta', tupOf vs n) ∈ tl2 ++ b) (fun ta' vs n tl2 => IntsAre vs (tagsOf tags st2)) (fun ta' vs n tl2 => Fr g' L' h' (fun y => if y = Str.ofString "state" then some (Value.int st2 u6) else m₁ y)) (fun ta' vs n tl2 => News g' L' h' ((I0, oI) :: (L' + 1 + 1 + 1, oe') :: (tl2 ++ (tl ++ b)))) (fun ta' vs n tl2 => Ap tl2 (I0 :: (L' + 1 + 1 + 1) :: b.map (·.1)))) ?h1 ?h2)
      case h1 =>
        by_cases hst : 0 ≤ st2
        · obtain ⟨tj, tjs, tn, e1, htj, e2⟩ := tag_at H htb hst hs3
          wtm_at "k:go"
          wtm_at "k:k1"
          wtm_at "k:go"
          exact ⟨_, _, rfl, tj, tjs, tn, [], rfl, htj, e2, F7, N7, Ap.nil⟩
        · wtm_at "k:k1"
          wtm_at "k:go"
          rename_i D h9 F9 N9 lD lD'
          have e2 : tagsOf tags st2 = [] := if_neg hst
          rw [e2]
          exact ⟨_, _, rfl, D, [], 0, [(D, _)], rfl, List.mem_cons_self, .nil, F9, News.sub N9 (by wtm_at "k:sub"), Ap.nil.cons (List.forall_mem_cons.mpr ⟨Nat.ne_of_gt lD'.1, List.forall_mem_cons.mpr ⟨Nat.ne_of_gt lD'.2.1, adr_lt lD (by wtm_at "k:sub")⟩⟩)⟩
      case h2 =>
        rintro _ h8 tk8 ⟨ta', tjs, tn, tl2, rfl, htj, hti, F8, N8, ap8⟩
        wtm_at "k:go"
        rename_i h9 F9 N9
        obtain ⟨b5, hb5⟩ : ∃ b5 : Led, b5 = (I0, oI) :: (L' + 1 + 1 + 1, oe') :: (tl2 ++ (tl ++ b)) := ⟨_, rfl⟩
        rw [← hb5] at N9
        have mta5 : (ta', tupOf tjs tn) ∈ b5 := by rw [hb5]; exact List.mem_cons_of_mem _ (List.mem_cons_of_mem _ ((List.mem_append.mp htj).elim (List.mem_append_left _) fun q => List.mem_append_right _ (List.mem_append_right _ q)))
        have m5e : (L' + 1 + 1 + 1, oe') ∈ b5 := by rw [hb5]; wtm_at "k:mem"
        have m52 : (L' + 1 + 1, o2) ∈ b5 := by rw [hb5]; wtm_at "k:mem"
        have m53 : (L' + 1, o3) ∈ b5 := by rw [hb5]; wtm_at "k:mem"
        have C5 : CutsL w b5 cv cts := Cb.mono (by rw [hb5]; wtm_at "k:sub")
        have htags := tagsOf_ok H st2
        have hlt := IntsAre.length hti
        k_dflt (refine compA_T (h₀ := g') (by with_unfolding_all rfl) (by with_unfolding_all rfl) (by decide) (by rfl) (by decide) (by rfl) (by rfl) (by rfl) ?_)
        wtm_at "k:go"
        first | delta Hold | ((try k_unmd); k_unfold; delta Hold) | (show Hold _; delta Hold)
        refine ⟨tjs.length, _, _, _, b5, Src.tup rfl N9 mta5, by rw [sizeLine_eq]; omega, F9, N9, fun j ys nx => ∃ tl3, nx = tl3 ++ b5 ∧ All2 (PairV tl3) ys (rowOf cts at_ ((tagsOf tags st2).take j) ((at_ : Int) + i + 1 - at_)) ∧ Ap tl3 (b5.map (·.1)), ?src, ?i0, ?iturn, ?ifin⟩
        case src =>
          rintro _ _ _ ⟨tl3, rfl, _⟩
          exact List.mem_append_right _ mta5
        case i0 => exact ⟨[], rfl, .nil, Ap.nil⟩
        case iturn =>
          intro j v2 ys nx I1 oI1 C1 oC1 D1 m₃ h17 tk17 E7 hj hP7 hJ7 hC7 hx7 F17 N17 off17 ne17
          obtain ⟨tl3, rfl, hys, hap3⟩ := hJ7
          obtain ⟨k, tk', rfl, hk7⟩ := hti.at j v2 hP7
          have ht1 : (tagsOf tags st2).take (j + 1) = (tagsOf tags st2).take j ++ [k] := by rw [List.take_add_one, hk7]; rfl
          clear N9
          wtm_at "k:go"
          · rename_i hpos _ _ _ _ D h19 F19 N19 lD lD'
            refine CompEnd.intro F19 N19 (((D, tupOf [.int ((at_ : Int) + bodyOf cts k ((at_ : Int) + i + 1 - at_)) _, .int k tk'] 0) :: tl3) ++ b5) (by simp only [List.cons_append]; wtm_at "k:sub") ⟨⟨Nat.ne_of_gt lD'.1, Nat.ne_of_gt lD'.2.1, Nat.ne_of_gt lD'.2.2.1⟩, off17⟩ trivial ⟨(D, _) :: tl3, rfl, ?_, hap3.cons (adr_lt lD (by wtm_at "k:sub"))⟩
            rw [ht1, rowOf_snoc, if_pos hpos]
            exact (hys.mono fun _ _ => PairV.mono (by wtm_at "k:sub")).snoc ⟨D, _, _, _, rfl, List.mem_cons_self⟩
          · rename_i hpos
            refine CompEnd.intro (by assumption) (by assumption) _ (by wtm_at "k:sub") off17 trivial ⟨tl3, rfl, ?_, hap3⟩
            rw [ht1, rowOf_snoc, if_neg hpos, List.append_nil]
            exact hys
        case ifin =>
          intro ys nx D8 h18 tk18 hJ8 F18 N18 o18
          obtain ⟨tl3, rfl, hys, hap3⟩ := hJ8
          have o19 := Off1.all o18
          have hyl := All2.length hys
          have hrl := rowOf_len (cts := cts) (at_ := at_) (len := (at_ : Int) + i + 1 - at_) (ts := (tagsOf tags st2).take tjs.length)
          have htl : ((tagsOf tags st2).take tjs.length).length ≤ 4 := by rw [List.length_take]; omega
          have m5f : (fa, listOf (List.toArray fvs) fn) ∈ b5 := by rw [hb5]; wtm_at "k:mem"
          have hall9 : (tagsOf tags st2).take tjs.length = tagsOf tags st2 := List.take_of_length_le (by omega)
          have hlen9 : (at_ : Int) + i + 1 - at_ = (i : Int) + 1 := by omega
          rw [hall9, hlen9] at hys hyl hrl
          have hcd : x.cps.toList.drop (at_ + i) = c :: x.cps.toList.drop (at_ + (i + 1)) := by
            have hq : at_ + i < x.cps.toList.length := by show at_ + i < x.cps.size; omega
            rw [List.drop_eq_getElem_cons hq]
            congr 1
            have := (Array.getElem?_eq_some_iff.mp hc).2
            simpa using this
          rw [hcd, dueGo, ← hst2] at hgo
          clear N9 o18
          wtm_at "k:go"
          rename_i Dn _ _ _ ldn ldn' hB FB NB
          refine TurnEnd.next FB NB ((L' + 1 + 1 + 1, oe') :: (((Dn, listOf (List.toArray (ys ++ fvs)) 0) :: (tl3 ++ tl)) ++ b)) ?_ ?_ ⟨oe', _, st2, _, _, (Dn, _) :: (tl3 ++ tl), _, rfl, d5, hma, hmx, rfl, rfl, ⟨Dn, ys ++ fvs, _, rfl, List.mem_cons_self, (hys.mono fun _ _ => PairV.mono (by wtm_at "k:sub")).app (hfs.mono fun _ _ => PairV.mono (by wtm_at "k:sub"))⟩, hs2, hs3, ?_, hgo, ?_⟩
          · subst hb5
            simp only [List.cons_append, List.append_assoc]
            wtm_at "k:sub"
          · have hd : I0 ∈ b5.map (·.1) := mem_adr (o := oI) (by rw [hb5]; wtm_at "k:mem")
            have h3 := hap3.ne hd
            have h4 : @Ne Nat Dn I0 := Nat.ne_of_gt (ldn (I0, oI) (by rw [hb5]; wtm_at "k:mem"))
            simp only [List.cons_append, List.append_assoc]
            wtm_at "k:all"
          · simp only [List.length_append]; omega
          · have sb5 : ∀ p ∈ b, p ∈ b5 := by rw [hb5]; wtm_at "k:sub"
            exact ((hap3.adr (List.forall_mem_cons.mpr ⟨mem_adr m5e, fun b' hb' => map_sub sb5 b' hb'⟩)).app hap).cons (List.forall_mem_cons.mpr ⟨Nat.ne_of_gt (ldn (L' + 1 + 1 + 1, oe') (by wtm_at "k:mem")), adr_lt ldn (fun p hp => List.mem_cons_of_mem _ (List.mem_append_right _ (sb5 p hp)))⟩)
  case fin =>
    intro h22 tk22 m₂ nx F22 N22 hJ
    obtain ⟨oe, vm, st, tq, f, tl, fv, rfl, hoe, hma, hmx, hms, hmf, hfo, hs0, hs1, hfl, hgo, hap⟩ := hJ
    change Fr g' L' h22 _ at F22
    change News g' L' h22 _ at N22
    have hnil : x.cps.toList.drop (at_ + z) = [] := List.drop_eq_nil_of_le (by show x.cps.size ≤ _; omega)
    rw [hnil, dueGo] at hgo
    subst hgo
    clear N3
    wtm_at "k:go"
    rename_i kF kN kT kX
    exact ret _ tl _ _ hfo kF (News.sub kN (by rw [hb]; wtm_at "k:sub")) (hap.adr fun b' hb' => List.mem_cons_of_mem _ (map_sub sb b' hb'))
end
theorem lines7 : True := by
  w_top off
  k_with_none
  k_with "k:k1" => ((first | (k_unfold; (try dsimp only)) | (k_end; wrow_close) | walk1 | (dsimp only; walk1) | (leave1; walk_say "STEP leave1"; try dsimp only) | fail "no step"))
  k_with "k:mem" => (first | exact List.mem_cons_self | ktr_member | (refine List.mem_cons_of_mem _ ?_; wtm_at "k:mem") | (refine List.mem_append_left _ ?_; wtm_at "k:mem") | (refine List.mem_append_right _ ?_; wtm_at "k:mem"))
  k_with "k:sub" => (first | with_reducible exact sub_refl | with_reducible assumption | with_reducible exact sub_nil | (with_reducible refine sub_of_cons ?_ ?_; (focus (wtm_at "k:mem")); wtm_at "k:sub") | (with_reducible refine sub_of_app ?_ ?_; (focus (wtm_at "k:sub")); wtm_at "k:sub") | (with_reducible refine sub_cons ?_; wtm_at "k:sub") | (with_reducible refine sub_appl ?_; wtm_at "k:sub") | (with_reducible refine sub_appr ?_; wtm_at "k:sub"))
  k_with "k:front" => (first | exact Front.head | exact Front.tail (by wtm_at "k:front") | exact Front.app (by wtm_at "k:front"))
  k_with "eval Name" => ((k_here; (fail_if_success (fail_if_success ((with_reducible refine loc_first ?_ ?_); (focus (k_dflt rfl))))); k_dflt (refine' nameX_L (by k_asm) (by first | rfl | assumption) ?_ (by rfl) (by rfl); k_whole)))
  k_with "eval Name" => ((k_here; (with_reducible show wpAny _ _ (eval (Expr.Name _ _) (envX _ _ _ _ _ _)) _ _ _); k_dflt (first
  | (refine' nameX_L (by k_asm) (by first | rfl | assumption) ?_ (by rfl) (by rfl); k_whole)
  | (refine' nameX_F (by k_asm) (by rfl) (by k_mem) (by k_asm) ?_ (by rfl) (by rfl); k_whole)
  | (refine' nameX_C (by k_asm) (by rfl) (by k_mem) (by k_asm) ?_ (by rfl) (by rfl); k_whole)
  | (refine' nameX_K (by k_asm) (by k_asm) (by k_asm) (by k_is) ?_ (by rfl) (by rfl); k_whole)
  | (refine' nameX_B (by k_asm) (by k_asm) (by k_asm) (by k_is) (by boot_fast) (by decide) ?_ (by rfl) (by rfl); k_whole))))
  k_with "k:all" => (first | with_reducible assumption | exact List.forall_mem_nil _ | (with_reducible refine List.forall_mem_cons.mpr ⟨?_, ?_⟩; (focus k_ne); wtm_at "k:all") | (with_reducible refine List.forall_mem_append.mpr ⟨?_, ?_⟩; (focus (wtm_at "k:all")); wtm_at "k:all") | exact Ap.ne (by with_reducible assumption) (by wtm_at "k:mem") | exact lts_ne (by with_reducible assumption) (by omega) | exact gts_ne (by with_reducible assumption) (by omega) | exact lts_sub_ne (by with_reducible assumption) (by wtm_at "k:sub"))
  k_with "callWith ref" => ((k_here; k_dflt (refine' callWith_F (TakeIn.fnAt (by k_asm) (by assumption) (by wtm_at "k:sub")) ?_)))
  k_with "And" => (((with_reducible show FnAt _ _ ∧ _); refine' ⟨TakeIn.fnAt (by k_asm) (by assumption) (by wtm_at "k:sub"), ?_⟩; try dsimp only [List.nil_append, List.cons_append]))
  k_with "call ref" => ((k_here; k_dflt (refine' take_call (by assumption) (by k_asm) (by k_asm) (by k_asm) (by k_asm) (by k_asm) (by wtm_at "k:front") (by wtm_at "k:sub") (by wtm_at "k:all") (by first | assumption | rfl) (by assumption) (by omega) (by omega) (by omega) (by omega) (by omega) (by omega) ?_); intro _ _ _ _ _ _ _ _ _; (try k_sweep)))
  k_with "k:haltX" => ((with_reducible show wpAny _ _ (exec (Stmt.Assign _ (Expr.ListComp _ _ _ _) _) _) _ _ _))
  k_with "k:haltX" => ((with_reducible show wpAny _ _ (exec (Stmt.For _ _ _ _ _) _) _ _ _))
  k_with "k:haltE" => ((with_reducible show wpAny _ _ (eval (Expr.ListComp _ _ _ _) _) _ _ _))
  k_with "k:halt" => (wtm_at "k:haltO")
  k_with "k:halt" => (wtm_at "k:haltE")
  k_with "k:halt" => (wtm_at "k:haltX")
  k_with "k:go" => ((try k_fold); repeat' ((fail_if_success (wtm_at "k:halt")); wtm_at "k:k1"))
  k_with "k:haltO" => ((with_reducible show LCg.CompEnd _ _ _ _ _ _ _ _ _ _ _ _ _ _))
  k_with "k:haltO" => ((with_reducible show TurnEnd _ _ _ _ _ _ _ _ _))
  k_with "call type:tuple" => ((k_here; (with_reducible show wpAny _ _ (call (Value.type _) [Value.ref _]) _ _ _); k_dflt (refine' kde_tupleOf (by k_asm) (by k_asm) (by exact News.isList (by k_asm) (by k_mem)) (by ((have hq9 := IntsAre.length (by assumption)); (simp only [List.size_toArray]); omega)) (by rfl) ?_; k_whole); intro _ _ _ _ l1; (try k_lt l1); (try k_sweep)); (try (revert l1; intro _)))
  k_with "k:haltE" => ((with_reducible show wpAny _ _ (call (Value.builtin "list.append") _) _ _ _))
  k_with "subscriptTail Attribute" => ((k_here; k_dflt (refine kba_turn (value' := PySem.Expr.Name (PySem.Str.ofString "_") ⟨0, 0, 0, 0⟩) (fun _ => rfl) ?_)))
  k_with "subscriptTail Subscript" => ((k_here; k_dflt (refine kba_turn (value' := PySem.Expr.Name (PySem.Str.ofString "_") ⟨0, 0, 0, 0⟩) (fun _ => rfl) ?_)))
  k_with "subscriptTail" => (wtm_at "k:fsub")
  k_with "subscriptTail Name Name ref int" => (wtm_at "k:fsub")
  k_with "subscriptTail Name Name str int" => (wtm_at "k:fsub")
  k_with "subscriptTail Name Name ref str" => (wtm_at "k:fsub")
  k_with "subscriptTail Name Constant ref int" => (wtm_at "k:fsub")
  k_with "subscriptTail Name Constant str int" => (wtm_at "k:fsub")
  k_with "subscriptTail Name Constant ref str" => (wtm_at "k:fsub")
  k_with "subscriptTail Name BinOp ref int" => (wtm_at "k:fsub")
  k_with "subscriptTail Name BinOp str int" => (wtm_at "k:fsub")
  k_with "subscriptTail Name BinOp ref str" => (wtm_at "k:fsub")
  k_with "execs cons" => ((k_here; (with_reducible refine gen_toks ?_); (intro (tk : Nat))))
  k_with "execs nil" => ((k_here; (with_reducible refine gen_toks ?_); (intro (tk : Nat))))
  k_with "execs cons" => ((k_here; (fail_if_success (with_reducible refine gen_toks ?_)); (fail_if_success k_made); (with_reducible refine execs_cont ?_)))
  k_with "k:haltO" => ((with_reducible show Hold _))
  k_with "k:fsub" => ((k_here; (with_reducible show wpAny _ _ (subscriptTail _ _ (Value.ref _) (Value.int _ _)) _ _ _); k_dflt (refine' itemL (by k_asm) (by k_mem) (by omega) (by omega) (by assumption) ?_)))
  k_with "subscriptTail Name Name ref int" => ((k_here; (with_reducible show wpAny _ _ (subscriptTail _ _ (Value.ref _) (Value.int _ _)) _ _ _); k_dflt (refine' itemL (by k_asm) (by k_mem) (by omega) (by omega) (by assumption) ?_)))
  k_with "ite" => ((k_here; k_openite; k_spoken; first | (refine ite_neg (by first | omega | (simp only [decide_eq_true_eq, beq_iff_eq]; omega)) ?_) | (refine ite_pos (by first | omega | (simp only [decide_eq_true_eq, beq_iff_eq]; omega)) ?_)))
  k_with "call builtin:list.reverse" => ((k_here; (with_reducible show wpAny _ _ (call (Value.builtin _) [Value.ref _]) _ _ _); k_dflt (refine' kl_reverse (by k_asm) (by k_asm) (by exact rfl) (by k_upd) (by (rw [sizeLine_eq]; simp only [List.toList_toArray]; omega)) ?_); intro _ _ _; (try k_sweep)))
  k_with "truthy ref" => ((k_here; (with_reducible show wpAny _ _ (truthy (Value.ref _)) _ _ _); k_dflt (refine' truthyT (by k_asm) (by k_mem) (by first | exact Nat.le_of_ble_eq_true rfl | omega) ?_; k_whole); (try simp only [List.isEmpty_cons, List.isEmpty_nil, Bool.not_false, Bool.not_true])))
  k_with "k:haltX" => ((with_reducible show wpAny _ _ (exec (Stmt.Assign _ (Expr.Call (Expr.Attribute _ _ _) _ _ _) _) _) _ _ _))
  k_with "call builtin:len" => ((k_here; (with_reducible show wpAny _ _ (call (Value.builtin "len") [Value.ref _]) _ _ _); k_dflt (refine' lenL (by k_asm) (by k_mem) (by omega) ?_; k_whole)))
  trivial
section
theorem truthyT {w : World} {A : Around} {s : Shared} {h₀ : Heap} {L : Addr} {E : Value → Shared → Prop} {Q : Bool → Shared → Prop} {l : Addr} {vs : List Value} {n : Nat} {news : Led} (N : News h₀ L s.heap news) (hm : (l, tupOf vs n) ∈ news) (hx : vs.length ≤ 1000) (h : Q (!vs.isEmpty) { s with toks := s.toks + 1 + 1 }) : wpAny (model prg w) A (truthy (.ref l)) Q E s := by
  refine ktl_truthy (N _ hm).1 (by rw [List.size_toArray]; omega) ?_
  rw [List.isEmpty_toArray]
  exact h
theorem endings_spec {w : World} {dp un : Nat} {gd : Option (List Code)} {cn : Str} {cs : Scope} {a : Addr} {ccd : Value} {cl : List (Str × Addr)} {outer : List Env} {A₀ : Around} {base h₀ : Heap} {L : Addr} {m mg mb : Str → Option Value} {mean : ExcName → Option Value} {tP : Program} {tL : List Str}
    {news : List (Addr × Obj)} {s : Shared} {R : Result → Shared → Prop} {av : Value} {rows tags : List (List Int)} {nb : Addr} {nvs : List Value} {nn : Nat} {ns : List Int} {at_ : Nat} {ta : Tok} {bs : Led}
    (B : Below A₀ base outer h₀) (F : Fr h₀ L s.heap m) (X : (hd.heap_1 w.params).In h₀) (N : News h₀ L s.heap news) (T : Top tP tL mean mg mb h₀) (hk : cs.kind = .function)
    (hdp : dp + 250 < recursionLimit) (hun : un + 500 < cLine) (I : DfaL w bs av rows tags) (hbs : ∀ p ∈ bs, p ∈ news) (H : AutoOk rows tags) (hn : (nb, listOf (List.toArray nvs) nn) ∈ news) (hnv : IntsAre nvs ns) (hn3 : ∀ x ∈ ns, 0 ≤ x ∧ x < 3) (hx6 : ns.length ≤ 6) (hat : at_ ≤ ns.length)
    (ret : ∀ v tl h' tks, EndsL (tl ++ bs) v (endsOf rows tags at_ ns) → Fr h₀ L h' m → News h₀ L h' (tl ++ news) → Ap tl (news.map (·.1)) → R (.ok (.ret v)) { s with heap := h', toks := tks }) :
    codeAny (model prg w) (ktrTop dp un gd cn cs L a ccd cl outer) (.call (.ref 158) ⟨[av, .ref nb, .int at_ ta], []⟩) R s := by
  obtain ⟨kd, nm, b1, b2, mo⟩ := cs
  cases hk
  obtain ⟨xa, dxa, rv, tv, t1, t2, rfl, mxa, mdx, ⟨ra, rvs, nr, rfl, mra, hrows⟩, ⟨tga, tvs, nt, rfl, mta, htags⟩⟩ := I
  replace mxa := hbs _ mxa
  replace mdx := hbs _ mdx
  replace mra := hbs _ mra
  replace mta := hbs _ mta
  replace hrows : All2 (RowL news) rvs rows := hrows.mono fun _ _ => RowL.mono hbs
  have hnl := IntsAre.length hnv
  k_dflt (refine' code_def (env := envX cn ⟨.function, nm, b1, b2, mo⟩ L a ccd cl) (outer := outer) B F X N T ?kA ?kF rfl ?k6 ?k7 ?k8 ?k9 ?kB ?_ ?c2 ?c3 ?c4 ?c5; (case kA => exact rfl); (case kF => exact rfl); (case k6 => k_is); (case k7 => k_is); (case k8 => k_room); (case k9 => exact binds_K (binds := [(Str.ofString "dfa", .ref xa), (Str.ofString "numbers", .ref nb), (Str.ofString "at", .int at_ ta), (Str.ofString "state", .int 0 _)]) (X.keeps F.keep) rfl (by k_is) rfl rfl rfl); (case c5 => decide); (case kB => exact locs rfl); (case c2 => exact rfl); (case c3 => exact rfl); (case c4 => exact rfl); k_whole)
  intro g' L' h' FG' F' N' B' X' T'
  with_reducible refine no_raise ?_
  change wpAny _ (ktrTop (dp + 1) (un + 3) gd _ _ _ _ _ [] (envX cn ⟨.function, nm, b1, b2, mo⟩ L a ccd cl :: outer)) _ _ _ _
  try dsimp only
  k_fold
  clear N
  wtm_at "k:go"
  rename_i lf hx0 llf llf' hx1 F1 N1
  obtain ⟨z, hz⟩ : ∃ z : Nat, ns.length = at_ + z := ⟨ns.length - at_, by omega⟩
  k_dflt (refine wpAny_joinF (fun f h' => ShP1V2P2V4P6 (f = .next) (fun m' nx => Fr g' L' h' m') (fun m' nx => News g' L' h' nx) (fun m' nx tl vs c f => nx = (lf, listOf (List.toArray vs) c) :: (tl ++ news)) (fun m' nx tl vs c f => m' (Str.ofString "found") = some (.ref lf)) (fun m' nx tl vs c f => All2 (EndV (tl ++ bs)) vs f) (fun m' nx tl vs c f => f = endsGo rows tags (ns.drop at_) 0 at_ []) (fun m' nx tl vs c f => vs.length ≤ 6) (fun m' nx tl vs c f => Ap tl (lf :: news.map (·.1)))) ?fo ?rest)
  case fo =>
    k_dflt (refine for_src (h₀ := g') (by rfl) (by rfl) ?_)
    wtm_at "k:go"
    rename_i h3 tk3 t31 t32 t33 hr3 F3 N3 keep3
    first | delta Hold | ((try k_unmd); k_unfold; delta Hold) | (show Hold _; delta Hold)
    refine ⟨z, _, _, _, _, Src.range (n := z) rfl hr3 (small_one (by omega) (by omega) (by omega) (by omega)) (by rw [rangeSize_nat]; congr 1; omega), F3, N3, fun i m nx => ShV6P11 (fun tl vs c f st tq => nx = (lf, listOf (List.toArray vs) c) :: (tl ++ news)) (fun tl vs c f st tq => m (Str.ofString "found") = some (.ref lf)) (fun tl vs c f st tq => m (Str.ofString "dfa") = some (.ref xa)) (fun tl vs c f st tq => m (Str.ofString "numbers") = some (.ref nb)) (fun tl vs c f st tq => m (Str.ofString "state") = some (.int st tq)) (fun tl vs c f st tq => 0 ≤ st) (fun tl vs c f st tq => st < rows.length) (fun tl vs c f st tq => vs.length ≤ i) (fun tl vs c f st tq => All2 (EndV (tl ++ bs)) vs f) (fun tl vs c f st tq => endsGo rows tags (ns.drop (at_ + i)) st ((at_ : Int) + i) f = endsGo rows tags (ns.drop at_) 0 at_ []) (fun tl vs c f st tq => Ap tl (lf :: news.map (·.1))), fun _ _ _ _ => trivial, ?j0, ?turn, ?fin⟩
    case j0 =>
      have hsm := H.some_
      exact ⟨[], [], 0, [], 0, _, rfl, rfl, rfl, rfl, rfl, by omega, by omega, Nat.le_refl _, .nil, by simp, Ap.nil⟩
    case fin =>
      intro h22 tk22 m₂ nx F22 N22 hJ
      obtain ⟨tl, vs, c, f, st, tq, rfl, hmf, hmd, hmn, hms, hs0, hs1, hvl, hall, hgo, hap⟩ := hJ
      have hnil : ns.drop (at_ + z) = [] := List.drop_eq_nil_of_le (by omega)
      rw [hnil, endsGo] at hgo
      exact ⟨_, _, rfl, (by first | exact rfl | exact True.intro), m₂, _, F22, N22, tl, vs, c, f, rfl, hmf, hall, hgo, by omega, hap⟩
    case turn =>
      intro i v m₁ nx I0 oI h tk E' hi hP hJ F4 N4 off4
      obtain ⟨tl, vs, c, f, st, tq, rfl, hmf, hmd, hmn, hms, hs0, hs1, hvl, hall, hgo, hap⟩ := hJ
      obtain ⟨te, rfl⟩ := hP
      change Fr g' L' h _ at F4
      change News g' L' h _ at N4
      have z1 : @Ne Nat lf I0 := off4 (lf, listOf (List.toArray vs) c) (by wtm_at "k:mem")
      have w1 : ∀ p ∈ tl, p.1 ≠ I0 := fun p hp => off4 p (List.mem_cons_of_mem _ (List.mem_append_left _ hp))
      have w2 : ∀ p ∈ news, p.1 ≠ I0 := fun p hp => off4 p (List.mem_cons_of_mem _ (List.mem_append_right _ hp))
      have z5 := hap.ne (b := lf) (by wtm_at "k:mem")
      obtain ⟨n, hc⟩ : ∃ n, ns[at_ + i]? = some n := ⟨_, List.getElem?_eq_getElem (by omega)⟩
      obtain ⟨hn0, hn1⟩ := hn3 n (List.mem_of_getElem? hc)
      obtain ⟨tn, hc'⟩ := ints_get ‹IntsAre nvs ns› _ _ hc
      replace hc' : nvs[((at_ : Int) + (i : Int)).toNat]? = some (.int n tn) := hc'
      have hfew := H.few
      obtain ⟨rj, rjs, rk, rt, e1, hrj, hr3', e2, hx0', hx1'⟩ := nxt_at H hrows hs0 hs1 hn0 hn1
      obtain ⟨st2, hst2⟩ : ∃ st2, st2 = nxt rows st n := ⟨_, rfl⟩
      rw [← hst2] at e2 hx0' hx1'
      clear N3
      have hcd : ns.drop (at_ + i) = n :: ns.drop (at_ + (i + 1)) := by
        have hq : at_ + i < ns.length := by omega
        rw [List.drop_eq_getElem_cons hq]
        congr 1
        have := (List.getElem?_eq_some_iff.mp hc).2
        simpa using this
      rw [hcd, endsGo, ← hst2] at hgo
      wtm_at "k:go"
      wtm_at "k:k1"
      k_dflt (refine wpAny_joinF (fun v h' => ∃ u, v = .int st2 u ∧ Fr g' L' h' (fun y => if y = Str.ofString "end" then some (.int ((at_ : Int) + (i : Int)) te) else m₁ y) ∧ News g' L' h' ((I0, oI) :: (lf, listOf (List.toArray vs) c) :: (tl ++ news))) ?st ?on)
      case st =>
        wtm_at "k:go"
        rename_i kF kN _ _
        exact ⟨_, _, rfl, _, rfl, kF, kN⟩
      case on =>
        rintro _ h6 tk6 ⟨u6, rfl, F6, N6⟩
        by_cases hdead : st2 = -1
        · rw [if_pos hdead] at hgo
          wtm_at "k:go"
          rename_i kF kN
          exact ⟨_, _, rfl, (by first | exact rfl | exact True.intro), _, _, kF, News.sub kN (by wtm_at "k:sub"), tl, vs, c, f, rfl, hmf, hall, hgo, by omega, hap⟩
        · rw [if_neg hdead] at hgo
          obtain ⟨tj, tjs, tjn, e3, htjB, hti⟩ := tagL_at H htags (st := st2) (by omega) hx1'
          have htj := hbs _ htjB
          have htz := (tagsOf_ok H st2).1
          rw [tagsOf, if_pos (by omega)] at htz
          have htz2 := IntsAre.length hti
          have e9 : (at_ : Int) + ((i + 1 : Nat) : Int) = (at_ : Int) + i + 1 := by omega
          have lv := All2.length hall
          rcases tjs with _ | ⟨k0, kr⟩
          · have ht0 : tags.getD st2.toNat [] = [] := List.eq_nil_of_length_eq_zero htz2.symm
            rw [if_pos ht0, ← e9] at hgo
            wtm_at "k:go"
            rename_i kF kN _
            exact TurnEnd.next kF kN ((lf, listOf (List.toArray vs) c) :: (tl ++ news)) (by wtm_at "k:sub") (by wtm_at "k:all") ⟨tl, vs, c, f, st2, u6, rfl, hmf, hmd, hmn, rfl, by omega, hx1', by omega, hall, hgo, hap⟩
          · have ht0 : ¬ tags.getD st2.toNat [] = [] := fun e => by rw [e] at htz2; exact absurd htz2 (by simp)
            rw [if_neg ht0, ← e9] at hgo
            wtm_at "k:go"
            rename_i D h19 F19 N19 lD lD'
            have y1 : @LT.lt Nat _ lf D := lD (lf, listOf (List.toArray vs) c) (by wtm_at "k:mem")
            have y2 : @Ne Nat D I0 := Nat.ne_of_gt (lD (I0, oI) (by wtm_at "k:mem"))
            k_dflt (refine' append_K (by k_asm) N19 ?k3 ?_ ?z)
            case k3 => k_upd
            case z => (simp only [List.size_toArray]; rw [sizeLine_eq]; omega)
            intro h21 F21 N21
            rw [List.push_toArray] at N21
            wtm_at "k:go"
            refine TurnEnd.next F21 N21 ((lf, listOf (List.toArray (vs ++ [.ref D])) (c + 1)) :: (((D, tupOf [.int ((at_ : Int) + i + 1) _, .ref tj] 0) :: tl) ++ news)) (by simp only [List.cons_append]; wtm_at "k:sub") (by simp only [List.cons_append]; wtm_at "k:all") ⟨(D, _) :: tl, vs ++ [.ref D], c + 1, _, st2, u6, rfl, hmf, hmd, hmn, rfl, by omega, hx1', by simp; omega, ?_, hgo, hap.cons (List.forall_mem_cons.mpr ⟨Nat.ne_of_gt y1, adr_lt lD (by wtm_at "k:sub")⟩)⟩
            · exact (hall.mono fun _ _ => EndV.mono (by wtm_at "k:sub")).snoc ⟨D, _, _, _, rfl, List.mem_append_left _ List.mem_cons_self, tj, k0 :: kr, tjn, rfl, List.mem_append_right _ htjB, hti⟩
  case rest =>
    rintro _ h4 tk4 ⟨rfl, m', nx, F4, N4, tl, vs, c, f, rfl, hmf, hall, hf, hvl, hap⟩
    have z5 := hap.ne (b := lf) (by wtm_at "k:mem")
    subst hf
    wtm_at "k:go"
    rename_i kF kN kT kX
    exact ret _ ((lf, listOf (List.toArray vs.reverse) _) :: tl) _ _ ⟨lf, vs.reverse, _, rfl, List.mem_cons_self, (hall.rev).mono fun _ _ => EndV.mono (by wtm_at "k:sub")⟩ kF (News.sub kN (by simp only [List.cons_append]; wtm_at "k:sub")) ((hap.adr fun b hb => List.mem_cons_of_mem _ hb).cons (adr_lt llf (by wtm_at "k:sub")))
end
theorem lines8 : True := by
  w_top off
  k_with_none
  k_with "k:k1" => ((first | (k_unfold; (try dsimp only)) | (k_end; wrow_close) | walk1 | (dsimp only; walk1) | (leave1; walk_say "STEP leave1"; try dsimp only) | fail "no step"))
  k_with "k:mem" => (first | exact List.mem_cons_self | ktr_member | (refine List.mem_cons_of_mem _ ?_; wtm_at "k:mem") | (refine List.mem_append_left _ ?_; wtm_at "k:mem") | (refine List.mem_append_right _ ?_; wtm_at "k:mem"))
  k_with "k:sub" => (first | with_reducible exact sub_refl | with_reducible assumption | with_reducible exact sub_nil | (with_reducible refine sub_of_cons ?_ ?_; (focus (wtm_at "k:mem")); wtm_at "k:sub") | (with_reducible refine sub_of_app ?_ ?_; (focus (wtm_at "k:sub")); wtm_at "k:sub") | (with_reducible refine sub_cons ?_; wtm_at "k:sub") | (with_reducible refine sub_appl ?_; wtm_at "k:sub") | (with_reducible refine sub_appr ?_; wtm_at "k:sub"))
  k_with "k:front" => (first | exact Front.head | exact Front.tail (by wtm_at "k:front") | exact Front.app (by wtm_at "k:front"))
  k_with "eval Name" => ((k_here; (fail_if_success (fail_if_success ((with_reducible refine loc_first ?_ ?_); (focus (k_dflt rfl))))); k_dflt (refine' nameX_L (by k_asm) (by first | rfl | assumption) ?_ (by rfl) (by rfl); k_whole)))
  k_with "eval Name" => ((k_here; (with_reducible show wpAny _ _ (eval (Expr.Name _ _) (envX _ _ _ _ _ _)) _ _ _); k_dflt (first
  | (refine' nameX_L (by k_asm) (by first | rfl | assumption) ?_ (by rfl) (by rfl); k_whole)
  | (refine' nameX_F (by k_asm) (by rfl) (by k_mem) (by k_asm) ?_ (by rfl) (by rfl); k_whole)
  | (refine' nameX_C (by k_asm) (by rfl) (by k_mem) (by k_asm) ?_ (by rfl) (by rfl); k_whole)
  | (refine' nameX_K (by k_asm) (by k_asm) (by k_asm) (by k_is) ?_ (by rfl) (by rfl); k_whole)
  | (refine' nameX_B (by k_asm) (by k_asm) (by k_asm) (by k_is) (by boot_fast) (by decide) ?_ (by rfl) (by rfl); k_whole))))
  k_with "k:all" => (first | with_reducible assumption | exact List.forall_mem_nil _ | (with_reducible refine List.forall_mem_cons.mpr ⟨?_, ?_⟩; (focus k_ne); wtm_at "k:all") | (with_reducible refine List.forall_mem_append.mpr ⟨?_, ?_⟩; (focus (wtm_at "k:all")); wtm_at "k:all") | exact Ap.ne (by with_reducible assumption) (by wtm_at "k:mem") | exact lts_ne (by with_reducible assumption) (by omega) | exact gts_ne (by with_reducible assumption) (by omega) | exact lts_sub_ne (by with_reducible assumption) (by wtm_at "k:sub"))
  k_with "callWith ref" => ((k_here; k_dflt (refine' callWith_F (TakeIn.fnAt (by k_asm) (by assumption) (by wtm_at "k:sub")) ?_)))
  k_with "And" => (((with_reducible show FnAt _ _ ∧ _); refine' ⟨TakeIn.fnAt (by k_asm) (by assumption) (by wtm_at "k:sub"), ?_⟩; try dsimp only [List.nil_append, List.cons_append]))
  k_with "call ref" => ((k_here; k_dflt (refine' take_call (by assumption) (by k_asm) (by k_asm) (by k_asm) (by k_asm) (by k_asm) (by wtm_at "k:front") (by wtm_at "k:sub") (by wtm_at "k:all") (by first | assumption | rfl) (by assumption) (by omega) (by omega) (by omega) (by omega) (by omega) (by omega) ?_); intro _ _ _ _ _ _ _ _ _; (try k_sweep)))
  k_with "k:haltX" => ((with_reducible show wpAny _ _ (exec (Stmt.Assign _ (Expr.ListComp _ _ _ _) _) _) _ _ _))
  k_with "k:haltX" => ((with_reducible show wpAny _ _ (exec (Stmt.For _ _ _ _ _) _) _ _ _))
  k_with "k:haltE" => ((with_reducible show wpAny _ _ (eval (Expr.ListComp _ _ _ _) _) _ _ _))
  k_with "k:halt" => (wtm_at "k:haltO")
  k_with "k:halt" => (wtm_at "k:haltE")
  k_with "k:halt" => (wtm_at "k:haltX")
  k_with "k:go" => ((try k_fold); repeat' ((fail_if_success (wtm_at "k:halt")); wtm_at "k:k1"))
  k_with "k:haltO" => ((with_reducible show LCg.CompEnd _ _ _ _ _ _ _ _ _ _ _ _ _ _))
  k_with "k:haltO" => ((with_reducible show TurnEnd _ _ _ _ _ _ _ _ _))
  k_with "call type:tuple" => ((k_here; (with_reducible show wpAny _ _ (call (Value.type _) [Value.ref _]) _ _ _); k_dflt (refine' kde_tupleOf (by k_asm) (by k_asm) (by exact News.isList (by k_asm) (by k_mem)) (by ((have hq9 := IntsAre.length (by assumption)); (simp only [List.size_toArray]); omega)) (by rfl) ?_; k_whole); intro _ _ _ _ l1; (try k_lt l1); (try k_sweep)); (try (revert l1; intro _)))
  k_with "k:haltE" => ((with_reducible show wpAny _ _ (call (Value.builtin "list.append") _) _ _ _))
  k_with "subscriptTail Attribute" => ((k_here; k_dflt (refine kba_turn (value' := PySem.Expr.Name (PySem.Str.ofString "_") ⟨0, 0, 0, 0⟩) (fun _ => rfl) ?_)))
  k_with "subscriptTail Subscript" => ((k_here; k_dflt (refine kba_turn (value' := PySem.Expr.Name (PySem.Str.ofString "_") ⟨0, 0, 0, 0⟩) (fun _ => rfl) ?_)))
  k_with "subscriptTail" => (wtm_at "k:fsub")
  k_with "subscriptTail Name Name ref int" => (wtm_at "k:fsub")
  k_with "subscriptTail Name Name str int" => (wtm_at "k:fsub")
  k_with "subscriptTail Name Name ref str" => (wtm_at "k:fsub")
  k_with "subscriptTail Name Constant ref int" => (wtm_at "k:fsub")
  k_with "subscriptTail Name Constant str int" => (wtm_at "k:fsub")
  k_with "subscriptTail Name Constant ref str" => (wtm_at "k:fsub")
  k_with "subscriptTail Name BinOp ref int" => (wtm_at "k:fsub")
  k_with "subscriptTail Name BinOp str int" => (wtm_at "k:fsub")
  k_with "subscriptTail Name BinOp ref str" => (wtm_at "k:fsub")
  k_with "execs cons" => ((k_here; (with_reducible refine gen_toks ?_); (intro (tk : Nat))))
  k_with "execs nil" => ((k_here; (with_reducible refine gen_toks ?_); (intro (tk : Nat))))
  k_with "call builtin:len" => ((k_here; (with_reducible show wpAny _ _ (call (Value.builtin "len") [Value.ref _]) _ _ _); k_dflt (refine' lenL (by k_asm) (by k_mem) (by omega) ?_; k_whole)))
  k_with "compareOp NotIn int ref" => ((k_here; k_dflt (refine kdg_notin (knd := PySem.intKind _ _) (by k_asm) (by k_mem) (by k_asm) (by k_asm) (intKind_is _ _ _ _) _ (by assumption) ?_)))
  k_with "k:fsub" => ((k_here; (with_reducible show wpAny _ _ (subscriptTail _ _ (Value.ref _) (Value.int _ _)) _ _ _); k_dflt (refine kda_item (knd := PySem.intKind _ _) (by k_asm) (by k_mem) (by k_asm) (intKind_is _ _ _ _) (by assumption) ?_)))
  trivial
section
/-- the made cuts as they lie -/
def CutI (w : World) (l : Led) (kv : Int × Value) (c : Int × Bool × Int) : Prop := ShP1V8P3 (kv.1 = c.1) (fun x dx t1 t2 t3 t4 ta tb => kv.2 = .ref x) (fun x dx t1 t2 t3 t4 ta tb => (x, instObj 175 dx) ∈ l) (fun x dx t1 t2 t3 t4 ta tb => (dx, dictOf [att w "way" t1 (.str (wayStr c.2.1) ta), att w "length" t2 (.int c.2.2 tb), att w "front" t3 .none, att w "back" t4 .none] 4) ∈ l)
def MadeL (w : World) (l : Led) (v : Value) (cs : List (Int × Bool × Int)) : Prop := ShV3P5 (fun d o kvs => v = .ref d) (fun d o kvs => (d, o) ∈ l) (fun d o kvs => o.IsDictOf (intKind prg w) kvs) (fun d o kvs => (d == sysModules) = false) (fun d o kvs => All2 (CutI w l) kvs cs)
theorem CutI.mono {w : World} {l l' : Led} {kv : Int × Value} {c : Int × Bool × Int} (hs : ∀ p ∈ l, p ∈ l') (h : CutI w l kv c) : CutI w l' kv c := let ⟨e, x, dx, t1, t2, t3, t4, ta, tb, e2, h1, h2⟩ := h; ⟨e, x, dx, t1, t2, t3, t4, ta, tb, e2, hs _ h1, hs _ h2⟩
theorem MadeL.mono {w : World} {l l' : Led} {v : Value} {cs : List (Int × Bool × Int)} (hs : ∀ p ∈ l, p ∈ l') (h : MadeL w l v cs) : MadeL w l' v cs := let ⟨d, o, kvs, e, hm, hd, lo, ha⟩ := h; ⟨d, o, kvs, e, hs _ hm, hd, lo, ha.mono fun _ _ => CutI.mono hs⟩
theorem made_look {w : World} {l : Led} {k : Int} : ∀ {kvs : List (Int × Value)} {cs : List (Int × Bool × Int)}, All2 (CutI w l) kvs cs →
    (valueAt kvs k = none ∧ cutAt cs k = none) ∨ ShV10P4 (fun x dx b wd t1 t2 t3 t4 ta tb => valueAt kvs k = some (.ref x)) (fun x dx b wd t1 t2 t3 t4 ta tb => cutAt cs k = some (b, wd)) (fun x dx b wd t1 t2 t3 t4 ta tb => (x, instObj 175 dx) ∈ l) (fun x dx b wd t1 t2 t3 t4 ta tb => (dx, dictOf [att w "way" t1 (.str (wayStr b) ta), att w "length" t2 (.int wd tb), att w "front" t3 .none, att w "back" t4 .none] 4) ∈ l)
  | _, _, .nil => .inl ⟨rfl, rfl⟩
  | _, _, .cons (a := kv) (b := c) h r => by
    obtain ⟨e, x, dx, t1, t2, t3, t4, ta, tb, e2, h1, h2⟩ := h
    by_cases hk : kv.1 = k
    · refine .inr ⟨x, dx, c.2.1, c.2.2, t1, t2, t3, t4, ta, tb, ?_, ?_, h1, h2⟩
      · simp [valueAt, hk, e2]
      · simp [cutAt, ← e, hk]
    · have hk' : ¬ c.1 = k := by rw [← e]; exact hk
      have ih := made_look (k := k) r
      simp only [valueAt, cutAt, List.find?_cons, decide_eq_false hk, decide_eq_false hk'] at ih ⊢
      exact ih
/-- the tables as they lie -/
def TabL (w : World) (l : Led) (tb : Addr) (cv hv : Value) (rej : Bool) : Prop := ShV16P2 (fun dx v1 v2 v4 v6 v7 v8 t1 t2 t3 t4 t5 t6 t7 t8 t9 => (tb, instObj 224 dx) ∈ l) (fun dx v1 v2 v4 v6 v7 v8 t1 t2 t3 t4 t5 t6 t7 t8 t9 => (dx, dictOf [att w "classes" t1 v1, att w "names" t2 v2, att w "automata" t3 hv, att w "rules" t4 v4, att w "cuts" t5 cv, att w "ends" t6 v6, att w "has_default" t7 v7, att w "end_rules" t8 v8, att w "has_reject" t9 (.bool rej)] 9) ∈ l)
theorem TabL.mono {w : World} {l l' : Led} {tb : Addr} {cv hv : Value} {rej : Bool} (hs : ∀ p ∈ l, p ∈ l') (h : TabL w l tb cv hv rej) : TabL w l' tb cv hv rej := by
  obtain ⟨dx, v1, v2, v4, v6, v7, v8, t1, t2, t3, t4, t5, t6, t7, t8, t9, h1, h2⟩ := h
  exact ⟨dx, v1, v2, v4, v6, v7, v8, t1, t2, t3, t4, t5, t6, t7, t8, t9, hs _ h1, hs _ h2⟩
theorem cutlen_spec {w : World} {dp un : Nat} {gd : Option (List Code)} {cn : Str} {cs : Scope} {a : Addr} {ccd : Value} {cl : List (Str × Addr)} {outer : List Env} {A₀ : Around} {base h₀ : Heap} {L : Addr} {m mg mb : Str → Option Value} {mean : ExcName → Option Value} {tP : Program} {tL : List Str}
    {news : List (Addr × Obj)} {s : Shared} {R : Result → Shared → Prop} {tb nb : Addr} {cv hv : Value} {rej : Bool} {nvs : List Value} {nn : Nat} {cts : List (Int × Bool × Int)} {k : Int} {tk : Tok}
    (B : Below A₀ base outer h₀) (F : Fr h₀ L s.heap m) (X : (hd.heap_1 w.params).In h₀) (N : News h₀ L s.heap news) (T : Top tP tL mean mg mb h₀) (hk : cs.kind = .function)
    (hdp : dp + 150 < recursionLimit) (hun : un + 300 < cLine) (I : TabL w news tb cv hv rej) (C : MadeL w news cv cts) (hn : (nb, listOf (List.toArray nvs) nn) ∈ news) (hx6 : nvs.length ≤ 1000)
    (ret : ∀ t h' tks, Fr h₀ L h' m → News h₀ L h' news → R (.ok (.ret (.int (bodyOf cts k nvs.length) t))) { s with heap := h', toks := tks }) :
    codeAny (model prg w) (ktrTop dp un gd cn cs L a ccd cl outer) (.call (.ref 249) ⟨[.ref tb, .int k tk, .ref nb], []⟩) R s := by
  obtain ⟨kd, nm, b1, b2, mo⟩ := cs
  cases hk
  obtain ⟨dtb, v1, v2, v4, v6, v7, v8, t1, t2, t3, t4, t5, t6, t7, t8, t9, mtb, mdt⟩ := I
  obtain ⟨d, o, kvs, rfl, hm, hd, lo, hall⟩ := C
  k_dflt (refine' code_def (env := envX cn ⟨.function, nm, b1, b2, mo⟩ L a ccd cl) (outer := outer) B F X N T ?kA ?kF rfl ?k6 ?k7 ?k8 ?k9 ?kB ?_ ?c2 ?c3 ?c4 ?c5; (case kA => exact rfl); (case kF => exact rfl); (case k6 => k_is); (case k7 => k_is); (case k8 => k_room); (case k9 => exact BindsTo.of_eq (binds := [(Str.ofString "tables", .ref tb), (Str.ofString "rule_number", .int k tk), (Str.ofString "numbers", .ref nb)]) rfl); (case c5 => decide); (case kB => exact locs rfl); (case c2 => exact rfl); (case c3 => exact rfl); (case c4 => exact rfl); k_whole)
  intro g' L' h' FG' F' N' B' X' T'
  with_reducible refine no_raise ?_
  change wpAny _ (ktrTop (dp + 1) (un + 3) gd _ _ _ _ _ [] (envX cn ⟨.function, nm, b1, b2, mo⟩ L a ccd cl :: outer)) _ _ _ _
  try dsimp only
  k_fold
  clear N
  rcases made_look (k := k) hall with ⟨e1, e2⟩ | ⟨x, dx, b, wd, u1, u2, u3, u4, ua, ub, e1, e2, hx, hdx⟩
  · have hq : (valueAt kvs k).isSome = false := by rw [e1]; rfl
    wtm_at "k:go"
    rename_i kF kN kT kX
    have e : (nvs.length : Int) = bodyOf cts k nvs.length := by unfold bodyOf; rw [e2]
    rw [e]
    exact ret _ _ _ kF (News.sub kN (by wtm_at "k:sub"))
  · have hq : (valueAt kvs k).isSome = true := by rw [e1]; rfl
    cases b with
    | true =>
      have w9 : wayStr true = Str.ofString "behind" := rfl
      rw [w9] at hdx
      wtm_at "k:go"
      rename_i kF kN kT kX
      have e : (nvs.length : Int) - wd = bodyOf cts k nvs.length := by unfold bodyOf; rw [e2]
      rw [e]
      exact ret _ _ _ kF (News.sub kN (by wtm_at "k:sub"))
    | false =>
      have w9 : wayStr false = Str.ofString "ahead" := rfl
      rw [w9] at hdx
      wtm_at "k:go"
      rename_i kF kN kT kX
      have e : wd = bodyOf cts k nvs.length := by unfold bodyOf; rw [e2]
      rw [e]
      exact ret _ _ _ kF (News.sub kN (by wtm_at "k:sub"))
end
theorem lines9 : True := by
  w_top off
  k_with_none
  k_with "k:k1" => ((first | (k_unfold; (try dsimp only)) | (k_end; wrow_close) | walk1 | (dsimp only; walk1) | (leave1; walk_say "STEP leave1"; try dsimp only) | fail "no step"))
  k_with "k:mem" => (first | exact List.mem_cons_self | ktr_member | (refine List.mem_cons_of_mem _ ?_; wtm_at "k:mem") | (refine List.mem_append_left _ ?_; wtm_at "k:mem") | (refine List.mem_append_right _ ?_; wtm_at "k:mem"))
  k_with "k:sub" => (first | with_reducible exact sub_refl | with_reducible assumption | with_reducible exact sub_nil | (with_reducible refine sub_of_cons ?_ ?_; (focus (wtm_at "k:mem")); wtm_at "k:sub") | (with_reducible refine sub_of_app ?_ ?_; (focus (wtm_at "k:sub")); wtm_at "k:sub") | (with_reducible refine sub_cons ?_; wtm_at "k:sub") | (with_reducible refine sub_appl ?_; wtm_at "k:sub") | (with_reducible refine sub_appr ?_; wtm_at "k:sub"))
  k_with "k:front" => (first | exact Front.head | exact Front.tail (by wtm_at "k:front") | exact Front.app (by wtm_at "k:front"))
  k_with "eval Name" => ((k_here; (fail_if_success (fail_if_success ((with_reducible refine loc_first ?_ ?_); (focus (k_dflt rfl))))); k_dflt (refine' nameX_L (by k_asm) (by first | rfl | assumption) ?_ (by rfl) (by rfl); k_whole)))
  k_with "eval Name" => ((k_here; (with_reducible show wpAny _ _ (eval (Expr.Name _ _) (envX _ _ _ _ _ _)) _ _ _); k_dflt (first
  | (refine' nameX_L (by k_asm) (by first | rfl | assumption) ?_ (by rfl) (by rfl); k_whole)
  | (refine' nameX_F (by k_asm) (by rfl) (by k_mem) (by k_asm) ?_ (by rfl) (by rfl); k_whole)
  | (refine' nameX_C (by k_asm) (by rfl) (by k_mem) (by k_asm) ?_ (by rfl) (by rfl); k_whole)
  | (refine' nameX_K (by k_asm) (by k_asm) (by k_asm) (by k_is) ?_ (by rfl) (by rfl); k_whole)
  | (refine' nameX_B (by k_asm) (by k_asm) (by k_asm) (by k_is) (by boot_fast) (by decide) ?_ (by rfl) (by rfl); k_whole))))
  k_with "k:all" => (first | with_reducible assumption | exact List.forall_mem_nil _ | (with_reducible refine List.forall_mem_cons.mpr ⟨?_, ?_⟩; (focus k_ne); wtm_at "k:all") | (with_reducible refine List.forall_mem_append.mpr ⟨?_, ?_⟩; (focus (wtm_at "k:all")); wtm_at "k:all") | exact Ap.ne (by with_reducible assumption) (by wtm_at "k:mem") | exact lts_ne (by with_reducible assumption) (by omega) | exact gts_ne (by with_reducible assumption) (by omega) | exact lts_sub_ne (by with_reducible assumption) (by wtm_at "k:sub"))
  k_with "callWith ref" => ((k_here; k_dflt (refine' callWith_F (TakeIn.fnAt (by k_asm) (by assumption) (by wtm_at "k:sub")) ?_)))
  k_with "And" => (((with_reducible show FnAt _ _ ∧ _); refine' ⟨TakeIn.fnAt (by k_asm) (by assumption) (by wtm_at "k:sub"), ?_⟩; try dsimp only [List.nil_append, List.cons_append]))
  k_with "call ref" => ((k_here; k_dflt (refine' take_call (by assumption) (by k_asm) (by k_asm) (by k_asm) (by k_asm) (by k_asm) (by wtm_at "k:front") (by wtm_at "k:sub") (by wtm_at "k:all") (by first | assumption | rfl) (by assumption) (by omega) (by omega) (by omega) (by omega) (by omega) (by omega) ?_); intro _ _ _ _ _ _ _ _ _; (try k_sweep)))
  k_with "k:haltX" => ((with_reducible show wpAny _ _ (exec (Stmt.Assign _ (Expr.ListComp _ _ _ _) _) _) _ _ _))
  k_with "k:haltX" => ((with_reducible show wpAny _ _ (exec (Stmt.For _ _ _ _ _) _) _ _ _))
  k_with "k:haltE" => ((with_reducible show wpAny _ _ (eval (Expr.ListComp _ _ _ _) _) _ _ _))
  k_with "k:halt" => (wtm_at "k:haltO")
  k_with "k:halt" => (wtm_at "k:haltE")
  k_with "k:halt" => (wtm_at "k:haltX")
  k_with "k:go" => ((try k_fold); repeat' ((fail_if_success (wtm_at "k:halt")); wtm_at "k:k1"))
  k_with "k:haltO" => ((with_reducible show LCg.CompEnd _ _ _ _ _ _ _ _ _ _ _ _ _ _))
  k_with "k:haltO" => ((with_reducible show TurnEnd _ _ _ _ _ _ _ _ _))
  k_with "call type:tuple" => ((k_here; (with_reducible show wpAny _ _ (call (Value.type _) [Value.ref _]) _ _ _); k_dflt (refine' kde_tupleOf (by k_asm) (by k_asm) (by exact News.isList (by k_asm) (by k_mem)) (by ((have hq9 := IntsAre.length (by assumption)); (simp only [List.size_toArray]); omega)) (by rfl) ?_; k_whole); intro _ _ _ _ l1; (try k_lt l1); (try k_sweep)); (try (revert l1; intro _)))
  k_with "k:haltE" => ((with_reducible show wpAny _ _ (call (Value.builtin "list.append") _) _ _ _))
  k_with "subscriptTail Attribute" => ((k_here; k_dflt (refine kba_turn (value' := PySem.Expr.Name (PySem.Str.ofString "_") ⟨0, 0, 0, 0⟩) (fun _ => rfl) ?_)))
  k_with "subscriptTail Subscript" => ((k_here; k_dflt (refine kba_turn (value' := PySem.Expr.Name (PySem.Str.ofString "_") ⟨0, 0, 0, 0⟩) (fun _ => rfl) ?_)))
  k_with "subscriptTail" => (wtm_at "k:fsub")
  k_with "subscriptTail Name Name ref int" => (wtm_at "k:fsub")
  k_with "subscriptTail Name Name str int" => (wtm_at "k:fsub")
  k_with "subscriptTail Name Name ref str" => (wtm_at "k:fsub")
  k_with "subscriptTail Name Constant ref int" => (wtm_at "k:fsub")
  k_with "subscriptTail Name Constant str int" => (wtm_at "k:fsub")
  k_with "subscriptTail Name Constant ref str" => (wtm_at "k:fsub")
  k_with "subscriptTail Name BinOp ref int" => (wtm_at "k:fsub")
  k_with "subscriptTail Name BinOp str int" => (wtm_at "k:fsub")
  k_with "subscriptTail Name BinOp ref str" => (wtm_at "k:fsub")
  k_with "execs cons" => ((k_here; (with_reducible refine gen_toks ?_); (intro (tk : Nat))))
  k_with "execs nil" => ((k_here; (with_reducible refine gen_toks ?_); (intro (tk : Nat))))
  k_with "k:fsub" => ((k_here; (with_reducible show wpAny _ _ (subscriptTail _ _ (Value.str _ _) (Value.int _ _)) _ _ _); k_dflt (refine' itemSY (by assumption) (by omega) (by omega) (by assumption) ?_)))
  k_with "ite" => ((k_here; k_openite; k_spoken; first | (refine ite_neg (by first | omega | (simp only [decide_eq_true_eq, beq_iff_eq]; omega)) ?_) | (refine ite_pos (by first | omega | (simp only [decide_eq_true_eq, beq_iff_eq]; omega)) ?_)))
  trivial
section
/-- the held automata as they lie -/
def HeldL (w : World) (l : Led) (v : Value) (r0 t0 r1 t1 : List (List Int)) : Prop := ShV4P6 (fun d o v0 v1 => v = .ref d) (fun d o v0 v1 => (d, o) ∈ l) (fun d o v0 v1 => o.IsDictOf (intKind prg w) [((0 : Int), v0), (1, v1)]) (fun d o v0 v1 => (d == sysModules) = false) (fun d o v0 v1 => DfaL w l v0 r0 t0) (fun d o v0 v1 => DfaL w l v1 r1 t1)
theorem HeldL.mono {w : World} {l l' : Led} {v : Value} {r0 t0 r1 t1 : List (List Int)} (hs : ∀ p ∈ l, p ∈ l') (h : HeldL w l v r0 t0 r1 t1) : HeldL w l' v r0 t0 r1 t1 := let ⟨d, o, v0, v1, e, hm, hd, lo, h0, h1⟩ := h; ⟨d, o, v0, v1, e, hs _ hm, hd, lo, h0.mono hs, h1.mono hs⟩
/-- the scanner as it lies -/
def ScanL (w : World) (l : Led) (sx : Addr) (x : Str) (tb nb : Addr) (pl tl : Addr) : Prop := ShV25P2 (fun dx v2 v3 v4 ta tb1 tc td te tf t1 t2 t3 t4 t5 t6 t7 t8 t9 ua ub uc ud ue uf => (sx, instObj 421 dx) ∈ l) (fun dx v2 v3 v4 ta tb1 tc td te tf t1 t2 t3 t4 t5 t6 t7 t8 t9 ua ub uc ud ue uf => (dx, dictOf [att w "text" t1 (.str x ta), att w "names" t2 v2, att w "has_default" t3 v3, att w "most" t4 v4, att w "at" t5 (.int 0 tb1), att w "began" t6 (.int 0 tc), att w "condition" t7 (.int 0 td), att w "pile" t8 (.ref pl), att w "echoed" t9 (.str ⟨#[]⟩ te), att w "count" ua (.int 0 tf), att w "turns" ub (.ref tl), att w "is_kept" uc (.bool false), att w "is_ended" ud (.bool false), att w "tables" ue (.ref tb), att w "numbers" uf (.ref nb)] 15) ∈ l)
/-- what candidates answers -/
def candRow (cts : List (Int × Bool × Int)) (at_ : Int) (p : Int × List Int) : List (Int × Int) := rowOf cts at_ p.2 (p.1 - at_)
def candAll (cts : List (Int × Bool × Int)) (at_ : Int) (es : List (Int × List Int)) : List (Int × Int) := es.flatMap (candRow cts at_)
def candOf (rej : Bool) (cts : List (Int × Bool × Int)) (at_ : Int) (es : List (Int × List Int)) : List (Int × Int) := if rej then candAll cts at_ es else (candAll cts at_ es).take 1
def beginsOf (x : Str) (at_ : Nat) : Bool := at_ == 0 || x.cps[at_ - 1]? == some 10
theorem itemSY {prog : Program} {w : World} {A : Around} {E : Value → Shared → Prop} {s : Shared} {value slice : PySem.Expr} {Q : Value → Shared → Prop} {x y : Str} {t u : Nat} {i : Int} {c : Nat} (hy : (⟨#[c]⟩ : Str) = y) (h0 : 0 ≤ i) (h1 : i < 1000000) (hc : x.cps[i.toNat]? = some c) (h : Q (.str y s.toks) { s with toks := s.toks + 1 })
    (hs : subscripted slice false (.str x t) (.int i u) = operate [.str x t, .int i u] (getItem (.str x t) (.int i u)) := by with_unfolding_all rfl) :
    wpAny (model prog w) A (subscriptTail value slice (.str x t) (.int i u)) Q E s := by subst hy; exact itemS h0 h1 hc h hs
theorem begins_spec {w : World} {dp un : Nat} {gd : Option (List Code)} {cn : Str} {cs : Scope} {a : Addr} {ccd : Value} {cl : List (Str × Addr)} {outer : List Env} {A₀ : Around} {base h₀ : Heap} {L : Addr} {m mg mb : Str → Option Value} {mean : ExcName → Option Value} {tP : Program} {tL : List Str}
    {news : List (Addr × Obj)} {s : Shared} {R : Result → Shared → Prop} {sx tb nb pl tl9 : Addr} {x : Str} {at_ : Nat} {ta : Tok}
    (B : Below A₀ base outer h₀) (F : Fr h₀ L s.heap m) (X : (hd.heap_1 w.params).In h₀) (N : News h₀ L s.heap news) (T : Top tP tL mean mg mb h₀) (hk : cs.kind = .function)
    (hdp : dp + 100 < recursionLimit) (hun : un + 300 < cLine) (S : ScanL w news sx x tb nb pl tl9) (hx : ∀ (i c : Nat), x.cps[i]? = some c → Abn c) (hx6 : x.cps.size ≤ 6) (hat : at_ ≤ x.cps.size)
    (ret : ∀ t h' tks, Fr h₀ L h' m → News h₀ L h' news → R (.ok (.ret (.int (if beginsOf x at_ then 1 else 0) t))) { s with heap := h', toks := tks }) :
    codeAny (model prg w) (ktrTop dp un gd cn cs L a ccd cl outer) (.call (.ref 298) ⟨[.ref sx, .int at_ ta], []⟩) R s := by
  obtain ⟨kd, nm, b1, b2, mo⟩ := cs
  cases hk
  obtain ⟨dsx, v2, v3, v4, sa, sb1, sc, sd, se, sf, s1, s2, s3, s4, s5, s6, s7, s8, s9, ua, ub, uc, ud, ue, uf, msx, mds⟩ := S
  k_dflt (refine' code_def (env := envX cn ⟨.function, nm, b1, b2, mo⟩ L a ccd cl) (outer := outer) B F X N T ?kA ?kF rfl ?k6 ?k7 ?k8 ?k9 ?kB ?_ ?c2 ?c3 ?c4 ?c5; (case kA => exact rfl); (case kF => exact rfl); (case k6 => k_is); (case k7 => k_is); (case k8 => k_room); (case k9 => exact BindsTo.of_eq (binds := [(Str.ofString "self", .ref sx), (Str.ofString "offset", .int at_ ta)]) rfl); (case c5 => decide); (case kB => exact locs rfl); (case c2 => exact rfl); (case c3 => exact rfl); (case c4 => exact rfl); k_whole)
  intro g' L' h' FG' F' N' B' X' T'
  with_reducible refine no_raise ?_
  change wpAny _ (ktrTop (dp + 1) (un + 3) gd _ _ _ _ _ [] (envX cn ⟨.function, nm, b1, b2, mo⟩ L a ccd cl :: outer)) _ _ _ _
  try dsimp only
  k_fold
  clear N
  by_cases h0 : at_ = 0
  · subst h0
    wtm_at "k:go"
    rename_i kF kN kT kX
    exact ret _ _ _ kF (News.sub kN (by wtm_at "k:sub"))
  · obtain ⟨c, hc⟩ : ∃ c, x.cps[at_ - 1]? = some c := ⟨_, Array.getElem?_eq_getElem (by omega)⟩
    have hcn := hx _ _ hc
    have e0 : ((at_ : Int) - 1).toNat = at_ - 1 := by omega
    have hc' : x.cps[((at_ : Int) - 1).toNat]? = some c := by rw [e0]; exact hc
    have eb : beginsOf x at_ = (c == 10) := by
      unfold beginsOf
      rw [hc, beq_false_of_ne h0, Bool.false_or]
      rfl
    rcases hcn with rfl | rfl | rfl
    · have hy : (⟨#[97]⟩ : Str) = Str.ofString "a" := by decide +kernel
      rw [eb] at ret
      wtm_at "k:go"
      rename_i kF kN kT kX
      exact ret _ _ _ kF (News.sub kN (by wtm_at "k:sub"))
    · have hy : (⟨#[98]⟩ : Str) = Str.ofString "b" := by decide +kernel
      rw [eb] at ret
      wtm_at "k:go"
      rename_i kF kN kT kX
      exact ret _ _ _ kF (News.sub kN (by wtm_at "k:sub"))
    · have hy : (⟨#[10]⟩ : Str) = Str.ofString "\n" := by decide +kernel
      rw [eb] at ret
      wtm_at "k:go"
      rename_i kF kN kT kX
      exact ret _ _ _ kF (News.sub kN (by wtm_at "k:sub"))
end
theorem lines10 : True := by
  w_top off
  k_with_none
  k_with "k:k1" => ((first | (k_unfold; (try dsimp only)) | (k_end; wrow_close) | walk1 | (dsimp only; walk1) | (leave1; walk_say "STEP leave1"; try dsimp only) | fail "no step"))
  k_with "k:mem" => (first | exact List.mem_cons_self | ktr_member | (refine List.mem_cons_of_mem _ ?_; wtm_at "k:mem") | (refine List.mem_append_left _ ?_; wtm_at "k:mem") | (refine List.mem_append_right _ ?_; wtm_at "k:mem"))
  k_with "k:sub" => (first | with_reducible exact sub_refl | with_reducible assumption | with_reducible exact sub_nil | (with_reducible refine sub_of_cons ?_ ?_; (focus (wtm_at "k:mem")); wtm_at "k:sub") | (with_reducible refine sub_of_app ?_ ?_; (focus (wtm_at "k:sub")); wtm_at "k:sub") | (with_reducible refine sub_cons ?_; wtm_at "k:sub") | (with_reducible refine sub_appl ?_; wtm_at "k:sub") | (with_reducible refine sub_appr ?_; wtm_at "k:sub"))
  k_with "k:front" => (first | exact Front.head | exact Front.tail (by wtm_at "k:front") | exact Front.app (by wtm_at "k:front"))
  k_with "eval Name" => ((k_here; (fail_if_success (fail_if_success ((with_reducible refine loc_first ?_ ?_); (focus (k_dflt rfl))))); k_dflt (refine' nameX_L (by k_asm) (by first | rfl | assumption) ?_ (by rfl) (by rfl); k_whole)))
  k_with "eval Name" => ((k_here; (with_reducible show wpAny _ _ (eval (Expr.Name _ _) (envX _ _ _ _ _ _)) _ _ _); k_dflt (first
  | (refine' nameX_L (by k_asm) (by first | rfl | assumption) ?_ (by rfl) (by rfl); k_whole)
  | (refine' nameX_F (by k_asm) (by rfl) (by k_mem) (by k_asm) ?_ (by rfl) (by rfl); k_whole)
  | (refine' nameX_C (by k_asm) (by rfl) (by k_mem) (by k_asm) ?_ (by rfl) (by rfl); k_whole)
  | (refine' nameX_K (by k_asm) (by k_asm) (by k_asm) (by k_is) ?_ (by rfl) (by rfl); k_whole)
  | (refine' nameX_B (by k_asm) (by k_asm) (by k_asm) (by k_is) (by boot_fast) (by decide) ?_ (by rfl) (by rfl); k_whole))))
  k_with "k:all" => (first | with_reducible assumption | exact List.forall_mem_nil _ | (with_reducible refine List.forall_mem_cons.mpr ⟨?_, ?_⟩; (focus k_ne); wtm_at "k:all") | (with_reducible refine List.forall_mem_append.mpr ⟨?_, ?_⟩; (focus (wtm_at "k:all")); wtm_at "k:all") | exact Ap.ne (by with_reducible assumption) (by wtm_at "k:mem") | exact lts_ne (by with_reducible assumption) (by omega) | exact gts_ne (by with_reducible assumption) (by omega) | exact lts_sub_ne (by with_reducible assumption) (by wtm_at "k:sub"))
  k_with "callWith ref" => ((k_here; k_dflt (refine' callWith_F (TakeIn.fnAt (by k_asm) (by assumption) (by wtm_at "k:sub")) ?_)))
  k_with "And" => (((with_reducible show FnAt _ _ ∧ _); refine' ⟨TakeIn.fnAt (by k_asm) (by assumption) (by wtm_at "k:sub"), ?_⟩; try dsimp only [List.nil_append, List.cons_append]))
  k_with "call ref" => ((k_here; k_dflt (refine' take_call (by assumption) (by k_asm) (by k_asm) (by k_asm) (by k_asm) (by k_asm) (by wtm_at "k:front") (by wtm_at "k:sub") (by wtm_at "k:all") (by first | assumption | rfl) (by assumption) (by omega) (by omega) (by omega) (by omega) (by omega) (by omega) ?_); intro _ _ _ _ _ _ _ _ _; (try k_sweep)))
  k_with "k:haltX" => ((with_reducible show wpAny _ _ (exec (Stmt.Assign _ (Expr.ListComp _ _ _ _) _) _) _ _ _))
  k_with "k:haltX" => ((with_reducible show wpAny _ _ (exec (Stmt.For _ _ _ _ _) _) _ _ _))
  k_with "k:haltE" => ((with_reducible show wpAny _ _ (eval (Expr.ListComp _ _ _ _) _) _ _ _))
  k_with "k:halt" => (wtm_at "k:haltO")
  k_with "k:halt" => (wtm_at "k:haltE")
  k_with "k:halt" => (wtm_at "k:haltX")
  k_with "k:go" => ((try k_fold); repeat' ((fail_if_success (wtm_at "k:halt")); wtm_at "k:k1"))
  k_with "k:haltO" => ((with_reducible show LCg.CompEnd _ _ _ _ _ _ _ _ _ _ _ _ _ _))
  k_with "k:haltO" => ((with_reducible show TurnEnd _ _ _ _ _ _ _ _ _))
  k_with "call type:tuple" => ((k_here; (with_reducible show wpAny _ _ (call (Value.type _) [Value.ref _]) _ _ _); k_dflt (refine' kde_tupleOf (by k_asm) (by k_asm) (by exact News.isList (by k_asm) (by k_mem)) (by ((have hq9 := IntsAre.length (by assumption)); (simp only [List.size_toArray]); omega)) (by rfl) ?_; k_whole); intro _ _ _ _ l1; (try k_lt l1); (try k_sweep)); (try (revert l1; intro _)))
  k_with "k:haltE" => ((with_reducible show wpAny _ _ (call (Value.builtin "list.append") _) _ _ _))
  k_with "subscriptTail Attribute" => ((k_here; k_dflt (refine kba_turn (value' := PySem.Expr.Name (PySem.Str.ofString "_") ⟨0, 0, 0, 0⟩) (fun _ => rfl) ?_)))
  k_with "subscriptTail Subscript" => ((k_here; k_dflt (refine kba_turn (value' := PySem.Expr.Name (PySem.Str.ofString "_") ⟨0, 0, 0, 0⟩) (fun _ => rfl) ?_)))
  k_with "subscriptTail" => (wtm_at "k:fsub")
  k_with "subscriptTail Name Name ref int" => (wtm_at "k:fsub")
  k_with "subscriptTail Name Name str int" => (wtm_at "k:fsub")
  k_with "subscriptTail Name Name ref str" => (wtm_at "k:fsub")
  k_with "subscriptTail Name Constant ref int" => (wtm_at "k:fsub")
  k_with "subscriptTail Name Constant str int" => (wtm_at "k:fsub")
  k_with "subscriptTail Name Constant ref str" => (wtm_at "k:fsub")
  k_with "subscriptTail Name BinOp ref int" => (wtm_at "k:fsub")
  k_with "subscriptTail Name BinOp str int" => (wtm_at "k:fsub")
  k_with "subscriptTail Name BinOp ref str" => (wtm_at "k:fsub")
  k_with "execs cons" => ((k_here; (with_reducible refine gen_toks ?_); (intro (tk : Nat))))
  k_with "execs nil" => ((k_here; (with_reducible refine gen_toks ?_); (intro (tk : Nat))))
  k_with "k:haltO" => ((with_reducible show Hold _))
  k_with "call builtin:ord" => ((k_here; (with_reducible show wpAny _ _ (call (Value.builtin "ord") [Value.str _ _]) _ _ _); refine P.ord_of_char ?_))
  k_with "call builtin:sorted" => ((k_here; (with_reducible show wpAny _ _ (call (Value.builtin _) [Value.ref _]) _ _ _); k_dflt (refine' sorted1 (by k_asm) (by k_asm) (by k_mem) (by exact Nat.le_of_ble_eq_true rfl) ?_); intro _ _ _ _ _ l1; (try k_lt l1); (try k_sweep)); (try (revert l1; intro _)))
  trivial
section
section
variable {prog : Program} {w : World} {A : Around} {E : Value → Shared → Prop} {s : Shared}
/-- the sort of a list of one -/
theorem list_sort1 {a : Addr} {vs : List Value} {n : Nat} {P : Fin → Shared → Prop} (h1 : vs.length < 2) (ho : s.heap.get? a = some (seqObj "list" vs.toArray n))
    (h : P (.done (.ret .none)) { s with heap := sortedHeap s.heap a vs vs.toArray }) :
    wpAny (model prog w) A (Builtin.«list.sort» ⟨[.ref a], []⟩) P E s := by
  rw [list_sort_plain]
  have ha : a < s.heap.objs.size := Heap.lt_size ho
  refine wpAny_bind (listItems_at ho rfl ?_)
  refine wpAny_bind (listUpdate_at ho rfl ?_ (by rw [List.size_toArray, sizeLine_eq]; omega) (Nat.zero_le _))
  obtain ⟨e1, ho1⟩ : ∃ e1, (s.heap.update a (Obj.mapSeq fun _ => #[])).get? a = some (seqObj "list" #[] e1) := ⟨_, get?_update_seq ho (fun _ => #[])⟩
  refine wpAny_bind (seqEpoch_at ho1 rfl ?_)
  refine wpAny_bind (wpAny_newTuple ?_ (by show vs.length ≤ _; rw [sizeLine_eq]; omega))
  refine wpAny_bind (wpAny_newList ?_ (Nat.zero_le _))
  refine wpAny_holding ?_
  have ho6 : (((s.heap.update a (Obj.mapSeq fun _ => #[])).push (seqObj "tuple" vs.toArray 0)).push (seqObj "list" #[] 0)).get? a = some (seqObj "list" #[] e1) := by
    rw [Heap.get?_push_ne _ _ _ (by rw [size_push', Heap.size_update]; exact Nat.ne_of_lt (Nat.lt_succ_of_lt ha)), Heap.get?_push_ne _ _ _ (by rw [Heap.size_update]; exact Nat.ne_of_lt ha)]
    exact ho1
  show wpAny (model prog w) A _ P E { s with heap := ((s.heap.update a (Obj.mapSeq fun _ => #[])).push (seqObj "tuple" vs.toArray 0)).push (seqObj "list" #[] 0) }
  dsimp only
  have h2 : vs.toArray.size < 2 := by rw [List.size_toArray]; exact h1
  rw [if_pos h2, if_pos h2]
  refine wpAny_bind (wpAny_pure ?_)
  rw [StateT.run_pure]
  refine wpAny_bind (wpAny_pure ?_)
  dsimp only
  have hout : (arrOf (SortSt.mk' general' (vs.toArray.zip vs.toArray) #[] 7 none)).map (·.2) = vs.toArray := by
    show (vs.toArray.zip vs.toArray).map (·.2) = vs.toArray
    rcases vs with _ | ⟨x, _ | ⟨y, r⟩⟩
    · simp
    · simp
    · exact absurd h1 (by simp only [List.length_cons]; omega)
  rw [hout]
  refine wpAny_bind (seqEpoch_at ho6 rfl ?_)
  refine wpAny_bind (listUpdate_at ho6 rfl ?_ (Nat.zero_le _) (by rw [List.size_toArray, sizeLine_eq]; omega))
  simp only [bne_self_eq_false, Bool.false_eq_true, if_false]
  exact wpAny_pure h
theorem sorted1 {h₀ : Heap} {L : Addr} {m : Str → Option Value} {news : Led} {l : Addr} {vs : List Value} {n : Nat} {Q : Value → Shared → Prop}
    (F : Fr h₀ L s.heap m) (N : News h₀ L s.heap news) (hm : (l, listOf (List.toArray vs) n) ∈ news) (h1 : vs.length < 2)
    (h : ∀ D h' e, Fr h₀ L h' m → News h₀ L h' ((D, listOf (List.toArray vs) e) :: news) → (∀ p ∈ news, @LT.lt Nat _ p.1 D) → Q (.ref D) { s with heap := h' }) :
    wpAny (model prog w) A (call (.builtin "sorted") [.ref l]) Q E s := by
  refine Calls.call_function_entry kind_sorted plain_sorted entry_sorted (args_sorted1 _) ?_
  unfold Builtin.«sorted»
  refine wpAny_bind (m := checkCount "sorted" 1 1 _) (wpAny_pure ?_)
  refine wpAny_bind (collect_list (News.isList N hm) ?_ (by rw [sizeLine_eq]; omega))
  refine wpAny_bind (wpAny_newList ?_ (by rw [sizeLine_eq]; omega))
  have hsz : ((s.heap.push (seqObj "list" #[] 0)).update s.heap.objs.size (Obj.mapSeq (· ++ vs.toArray))).objs.size = s.heap.objs.size + 1 := by
    rw [Heap.size_update, size_push']
  have hoL : (((s.heap.push (seqObj "list" #[] 0)).update s.heap.objs.size (Obj.mapSeq (· ++ vs.toArray))).push (seqObj "list" vs.toArray 0)).get? (s.heap.objs.size + 1) = some (seqObj "list" vs.toArray 0) := by
    rw [← hsz]; exact Heap.get?_push_size _ rfl
  show wpAny _ _ _ _ _ { s with heap := ((s.heap.push (seqObj "list" #[] 0)).update s.heap.objs.size (Obj.mapSeq (· ++ vs.toArray))).push (seqObj "list" vs.toArray 0) }
  rw [hsz]
  refine wpAny_bind (wpAny_holding (wpAny_call_entry slot_list_sort ⟨_, hoL, rfl⟩ entry_list_sort ?body (args_list_sort _)))
  case body =>
    refine list_sort1 (s := { s with heap := ((s.heap.push (seqObj "list" #[] 0)).update s.heap.objs.size (Obj.mapSeq (· ++ vs.toArray))).push (seqObj "list" vs.toArray 0) }) h1 hoL ?_
    obtain ⟨e, he⟩ := sortedAll_at s.heap vs vs.toArray
    exact ⟨_, rfl, wpAny_pure ⟨_, rfl, h _ _ e (F.kept fun _ _ => sortedAll_old) (N.kept_cons F (fun _ _ => sortedAll_old) (Nat.le_succ _) he) (fun p hp => Nat.lt_succ_of_lt (Heap.lt_size (N p hp).1))⟩⟩
end
theorem chars_of {w : World} {dp un : Nat} {gd : Option (List Code)} {cn : Str} {cs : Scope} {a : Addr} {ccd : Value} {cl : List (Str × Addr)} {outer : List Env} {A₀ : Around} {base h₀ : Heap} {L : Addr} {m mg mb : Str → Option Value} {mean : ExcName → Option Value} {tP : Program} {tL : List Str}
    {news : List (Addr × Obj)} {s : Shared} {R : Result → Shared → Prop} {t : Tok} {c : Nat}
    (B : Below A₀ base outer h₀) (F : Fr h₀ L s.heap m) (X : (hd.heap_1 w.params).In h₀) (N : News h₀ L s.heap news) (T : Top tP tL mean mg mb h₀) (hk : cs.kind = .function)
    (hdp : dp + 150 < recursionLimit) (hun : un + 300 < cLine) (hc : c ≤ 120)
    (ret : ∀ x dx sp p t0 t1 t2 h' tks, Fr h₀ L h' m → News h₀ L h' ((x, instObj 589 dx) :: (dx, dictOf [att w "spans" t0 (.ref sp)] 1) :: (sp, tupOf [.ref p] 0) :: (p, tupOf [.int c t1, .int c t2] 0) :: news) → R (.ok (.ret (.ref x))) { s with heap := h', toks := tks }) :
    codeAny (model prg w) (ktrTop dp un gd cn cs L a ccd cl outer) (.call (.ref 472) ⟨[.str ⟨#[c]⟩ t], []⟩) R s := by
  obtain ⟨kd, nm, b1, b2, mo⟩ := cs
  cases hk
  k_dflt (refine' code_def (env := envX cn ⟨.function, nm, b1, b2, mo⟩ L a ccd cl) (outer := outer) B F X N T ?kA ?kF rfl ?k6 ?k7 ?k8 ?k9 ?kB ?_ ?c2 ?c3 ?c4 ?c5; (case kA => exact rfl); (case kF => exact rfl); (case k6 => k_is); (case k7 => k_is); (case k8 => k_room); (case k9 => exact BindsTo.of_eq (binds := [(Str.ofString "text", .str ⟨#[c]⟩ t)]) rfl); (case c5 => decide); (case kB => exact locs rfl); (case c2 => exact rfl); (case c3 => exact rfl); (case c4 => exact rfl); k_whole)
  intro g' L' h' FG' F' N' B' X' T'
  with_reducible refine no_raise ?_
  change wpAny _ (ktrTop (dp + 1) (un + 3) gd _ _ _ _ _ [] (envX cn ⟨.function, nm, b1, b2, mo⟩ L a ccd cl :: outer)) _ _ _ _
  try dsimp only
  k_fold
  clear N
  wtm_at "k:go"
  k_dflt (refine comp_U (h₀ := g') (L := L') (by with_unfolding_all rfl) (by decide) (by rfl) (by decide) (by rfl) ?_)
  wtm_at "k:go"
  first | delta Hold | ((try k_unmd); k_unfold; delta Hold) | (show Hold _; delta Hold)
  refine ⟨1, _, _, _, _, Src.str rfl, by rw [sizeLine_eq]; omega, F', N', fun i ys nx => (i = 0 ∧ ys = [] ∧ nx = news) ∨ (ShP1V3P3 (i = 1) (fun p t1 t2 => ys = [.ref p]) (fun p t1 t2 => nx = (p, tupOf [.int c t1, .int c t2] 0) :: news) (fun p t1 t2 => ∀ q ∈ news, q.1 ≠ p)), fun _ _ _ _ => trivial, ?j0, ?turn, ?fin⟩
  case j0 => exact .inl ⟨rfl, rfl, rfl⟩
  case turn =>
    intro i v ys nx I0 oI C0 oC D0 m₂ h tk E' hi hP hJ hC hx F4 N4 off4 ne4
    obtain rfl : i = 0 := by omega
    obtain ⟨_, rfl, rfl⟩ : (0 : Nat) = 0 ∧ ys = [] ∧ nx = news := hJ.elim id fun q => absurd q.1 (by decide)
    obtain ⟨c', u, hcc, rfl⟩ := hP
    obtain rfl : c = c' := by simpa using hcc
    clear F'
    wtm_at "k:go"
    rename_i D1 h19 F19 N19 lD lD'
    exact CompEnd.intro F19 N19 ((D1, tupOf [.int c _, .int c _] 0) :: nx) (by wtm_at "k:sub") ⟨⟨Nat.ne_of_gt lD'.1, Nat.ne_of_gt lD'.2.1, Nat.ne_of_gt lD'.2.2.1⟩, off4⟩ trivial (.inr ⟨rfl, D1, _, _, rfl, rfl, fun q hq => Nat.ne_of_lt (lD q (List.mem_cons_of_mem _ (List.mem_cons_of_mem _ (List.mem_cons_of_mem _ hq))))⟩)
  case fin =>
    intro ys nx D h9 tk9 hJ F9 N9 o19
    obtain ⟨_, p, t1, t2, rfl, rfl, hne⟩ := hJ.resolve_left (by simp)
    have o20 := Off1.all o19
    clear F'
    have hDp : @Ne Nat D p := Ne.symm (o20 (p, tupOf [.int c t1, .int c t2] 0) (by wtm_at "k:mem"))
    have hDn : ∀ q ∈ news, q.1 ≠ D := fun q hq => o20 q (List.mem_cons_of_mem _ hq)
    wtm_at "k:go"
    rename_i gM LM hM0 FGM BM XM TM lk hM1 lk9 lk9' hM2 FM NM
    k_dflt (refine for_listT (h₀ := gM) rfl ?_)
    wtm_at "k:go"
    first | delta Hold | ((try k_unmd); k_unfold; delta Hold) | (show Hold _; delta Hold)
    refine ⟨D, [.ref p], _, _, _, rfl, by wtm_at "k:mem", FM, NM, fun i m nx => (i = 0 ∧ m (Str.ofString "kept") = some (.ref lk) ∧ nx = (lk, listOf (List.toArray []) 0) :: (D, lst [.ref p]) :: (p, tupOf [.int c t1, .int c t2] 0) :: news) ∨ (ShP1V4P3 (i = 1) (fun q u1 u2 c' => m (Str.ofString "kept") = some (.ref lk)) (fun q u1 u2 c' => nx = (lk, listOf (List.toArray [.ref q]) c') :: (q, tupOf [.int c u1, .int c u2] 0) :: (D, lst [.ref p]) :: (p, tupOf [.int c t1, .int c t2] 0) :: news) (fun q u1 u2 c' => @LT.lt Nat _ lk q)), ?src, ?j0, ?turn, ?fin⟩
    case src =>
      rintro _ _ _ (⟨_, _, rfl⟩ | ⟨_, q, u1, u2, c', _, rfl, _⟩) <;> wtm_at "k:mem"
    case j0 => exact .inl ⟨rfl, rfl, rfl⟩
    case turn =>
      intro i v m₁ nx I0 oI h tk E' hv hJ F4 N4 off4
      have hi : i = 0 := by have := (List.getElem?_eq_some_iff.mp hv).1; simp at this; exact this
      subst hi
      obtain ⟨_, hmk, rfl⟩ := hJ.resolve_right (fun q => absurd q.1 (by decide))
      obtain rfl : Value.ref p = v := by simpa using hv
      change Fr gM LM h _ at F4
      change News gM LM h _ at N4
      have z1 : @Ne Nat lk I0 := off4 (lk, listOf (List.toArray []) 0) (by wtm_at "k:mem")
      have z2 : @Ne Nat D I0 := off4 (D, lst [.ref p]) (by wtm_at "k:mem")
      have z3 : @Ne Nat p I0 := off4 (p, tupOf [.int c t1, .int c t2] 0) (by wtm_at "k:mem")
      have w2 : ∀ p ∈ news, p.1 ≠ I0 := fun q hq => off4 q (List.mem_cons_of_mem _ (List.mem_cons_of_mem _ (List.mem_cons_of_mem _ hq)))
      clear NM
      have e1 : (if (127 : Int) < (c : Int) then (127 : Int) else c) = c := if_neg (by omega)
      have e2 : (if (0 : Int) > (c : Int) then (0 : Int) else c) = c := if_neg (by omega)
      wtm_at "k:go"
      rename_i Dq hq Fq Nq lq lq'
      rw [e1, e2] at Nq
      k_dflt (refine' append_K (by k_asm) Nq ?k3 ?_ ?z)
      case k3 => k_upd
      case z => (rw [sizeLine_eq]; exact Nat.zero_le _)
      intro h21 F21 N21
      rw [List.push_toArray, List.nil_append] at N21
      wtm_at "k:go"
      have y1 : @Ne Nat Dq I0 := Nat.ne_of_gt lq'.1
      refine TurnEnd.next F21 N21 ((lk, listOf (List.toArray [.ref Dq]) (0 + 1)) :: (Dq, tupOf [.int c _, .int c _] 0) :: (D, lst [.ref p]) :: (p, tupOf [.int c t1, .int c t2] 0) :: news) (by wtm_at "k:sub") (List.forall_mem_cons.mpr ⟨z1, List.forall_mem_cons.mpr ⟨y1, List.forall_mem_cons.mpr ⟨z2, List.forall_mem_cons.mpr ⟨z3, w2⟩⟩⟩⟩) (.inr ⟨by first | exact rfl | exact True.intro, Dq, _, _, _, hmk, rfl, lq'.2.1⟩)
    case fin =>
      intro h22 tk22 m₂ nx F22 N22 hJ
      obtain ⟨_, q, u1, u2, c', hmk, rfl, hlq⟩ := hJ.resolve_left (fun q => absurd q.1 (by simp))
      change Fr gM LM h22 _ at F22
      change News gM LM h22 _ at N22
      clear NM
      wtm_at "k:go"
      rename_i ls hls0 lls lls' hls1 FS NS
      obtain ⟨b, hb⟩ : ∃ b : Led, b = (lk, listOf (List.toArray [.ref q]) c') :: (q, tupOf [.int c u1, .int c u2] 0) :: (D, lst [.ref p]) :: (p, tupOf [.int c t1, .int c t2] 0) :: news := ⟨_, rfl⟩
      k_dflt (refine for_listT (h₀ := gM) rfl ?_)
      wtm_at "k:go"
      rename_i Ds hDs es9 FD ND lDs lDs'
      have mq : (q, tupOf [.int c u1, .int c u2] 0) ∈ b := by rw [hb]; wtm_at "k:mem"
      have lsb : ∀ p ∈ b, @LT.lt Nat _ p.1 ls := fun p hp => lls p (by rw [hb] at hp; exact hp)
      have ofb : ∀ p ∈ b, p.1 ≠ ls := fun p hp => Nat.ne_of_lt (lsb p hp)
      have hDls : @Ne Nat Ds ls := Nat.ne_of_gt lDs'.1
      have nb : ∀ p ∈ news, p ∈ b := by rw [hb]; wtm_at "k:sub"
      have N0 : News gM LM hDs ((ls, listOf (List.toArray []) 0) :: (Ds, listOf (List.toArray [.ref q]) es9) :: b) := News.sub ND (by rw [hb]; wtm_at "k:sub")
      clear ND
      first | delta Hold | ((try k_unmd); k_unfold; delta Hold) | (show Hold _; delta Hold)
      refine ⟨Ds, [.ref q], es9, _, _, rfl, List.mem_cons_of_mem _ List.mem_cons_self, FD, N0, fun i m nx => (i = 0 ∧ m (Str.ofString "spans") = some (.ref ls) ∧ nx = (ls, listOf (List.toArray []) 0) :: (Ds, listOf (List.toArray [.ref q]) es9) :: b) ∨ (ShP1V4P3 (i = 1) (fun r u1 u2 c2 => m (Str.ofString "spans") = some (.ref ls)) (fun r u1 u2 c2 => nx = (ls, listOf (List.toArray [.ref r]) c2) :: (r, tupOf [.int c u1, .int c u2] 0) :: (Ds, listOf (List.toArray [.ref q]) es9) :: b) (fun r u1 u2 c2 => @LT.lt Nat _ ls r)), ?src2, ?j02, ?turn2, ?fin2⟩
      case src2 =>
        rintro _ _ _ (⟨_, _, rfl⟩ | ⟨_, r, u1, u2, c2, _, rfl, _⟩) <;> wtm_at "k:mem"
      case j02 => exact .inl ⟨rfl, rfl, rfl⟩
      case turn2 =>
        intro i v m₁ nx I0 oI h tk E' hv hJ F4 N4 off4
        have hi : i = 0 := by have := (List.getElem?_eq_some_iff.mp hv).1; simp at this; exact this
        subst hi
        obtain ⟨_, hmk, rfl⟩ := hJ.resolve_right (fun q => absurd q.1 (by decide))
        obtain rfl : Value.ref q = v := by simpa using hv
        change Fr gM LM h _ at F4
        change News gM LM h _ at N4
        have z1 : @Ne Nat ls I0 := off4 (ls, listOf (List.toArray []) 0) (by wtm_at "k:mem")
        have z2 : @Ne Nat Ds I0 := off4 (Ds, listOf (List.toArray [.ref q]) es9) (by wtm_at "k:mem")
        have w2 : ∀ p ∈ b, p.1 ≠ I0 := fun q hq => off4 q (List.mem_cons_of_mem _ (List.mem_cons_of_mem _ hq))
        clear N0
        wtm_at "k:go"
        rename_i Dq hq Fq Nq lq lq'
        k_dflt (refine' append_K (by k_asm) Nq ?k3 ?_ ?z)
        case k3 => k_upd
        case z => (rw [sizeLine_eq]; exact Nat.zero_le _)
        intro h21 F21 N21
        rw [List.push_toArray, List.nil_append] at N21
        wtm_at "k:go"
        have y1 : @Ne Nat Dq I0 := Nat.ne_of_gt lq'.1
        refine TurnEnd.next F21 N21 ((ls, listOf (List.toArray [.ref Dq]) (0 + 1)) :: (Dq, tupOf [.int c _, .int c _] 0) :: (Ds, listOf (List.toArray [.ref q]) es9) :: b) (by wtm_at "k:sub") (List.forall_mem_cons.mpr ⟨z1, List.forall_mem_cons.mpr ⟨y1, List.forall_mem_cons.mpr ⟨z2, w2⟩⟩⟩) (.inr ⟨by first | exact rfl | exact True.intro, Dq, _, _, _, hmk, rfl, lq'.2.1⟩)
      case fin2 =>
        intro h23 tk23 m₃ nx F23 N23 hJ
        obtain ⟨_, r, u3, u4, c2, hmr, rfl, hlr⟩ := hJ.resolve_left (fun q => absurd q.1 (by simp))
        change Fr gM LM h23 _ at F23
        change News gM LM h23 _ at N23
        clear N0
        wtm_at "k:go"
        rename_i kF kN kT kX
        exact ret _ _ _ _ _ _ _ _ _ kF (News.sub kN (by rw [hb]; wtm_at "k:sub"))
end
section
theorem under_call (dp un : Nat) (gd : Option (List Code)) (cn : Str) (cs : Scope) (L a : Addr) (ccd : Value) (cl : List (Str × Addr)) (outer : List Env) (C : Addr) (pos : List Value) : (ktrTop dp un gd cn cs L a ccd cl outer).under (.builtin "type.__call__" ⟨.ref C :: pos, []⟩) = ktrTop (dp + 1) (un + 1) gd cn cs L a ccd cl outer := by
  first | rfl | (cases gd <;> rfl)
/-- a class called: its __init__ runs on the new instance -/
theorem make_at {w : World} {dp un : Nat} {gd : Option (List Code)} {cn : Str} {cs : Scope} {a : Addr} {ccd : Value} {cl : List (Str × Addr)} {outer : List Env} {h₀ : Heap} {L : Addr} {m : Str → Option Value}
    {news : List (Addr × Obj)} {s : Shared} {Q E : Value → Shared → Prop} {C fI : Addr} {pos : List Value}
    (F : Fr h₀ L s.heap m) (X : (hd.heap_1 w.params).In h₀) (N : News h₀ L s.heap news) (hm : makesIn (hd.heap_1 w.params) C = true) (hi : findIn (hd.heap_1 w.params) (.ref C) "__init__" = some (some (.ref fI))) (hf : isFn (hd.heap_1 w.params) (.ref fI) = true)
    (h : ∀ x dx h', Fr h₀ L h' m → News h₀ L h' ((x, instObj C dx) :: (dx, dictOf [] 0) :: news) → (∀ p ∈ news, @LT.lt Nat _ p.1 dx) → @LT.lt Nat _ dx x →
      codeAny (model prg w) (ktrTop (dp + 1) (un + 1) gd cn cs L a ccd cl outer) (.call (.ref fI) ⟨.ref x :: pos, []⟩) (InitBack x fun r s' => match r with | .ok (.ret v) => Q v s' | .ok _ => False | .error e => E e s') { s with heap := h' }) :
    wpAny (model prg w) (ktrTop dp un gd cn cs L a ccd cl outer) (call (.ref C) pos) Q E s := by
  refine call_cls F X N hm hi hf fun x dx h' F' N' l1 l2 => ?_
  rw [under_call]
  exact h x dx h' F' N' l1 l2
end
theorem lines12 : True := by
  w_top off
  k_with_none
  k_with "k:k1" => ((first | (k_unfold; (try dsimp only)) | (k_end; wrow_close) | walk1 | (dsimp only; walk1) | (leave1; walk_say "STEP leave1"; try dsimp only) | fail "no step"))
  k_with "k:mem" => (first | exact List.mem_cons_self | ktr_member | (refine List.mem_cons_of_mem _ ?_; wtm_at "k:mem") | (refine List.mem_append_left _ ?_; wtm_at "k:mem") | (refine List.mem_append_right _ ?_; wtm_at "k:mem"))
  k_with "k:sub" => (first | with_reducible exact sub_refl | with_reducible assumption | with_reducible exact sub_nil | (with_reducible refine sub_of_cons ?_ ?_; (focus (wtm_at "k:mem")); wtm_at "k:sub") | (with_reducible refine sub_of_app ?_ ?_; (focus (wtm_at "k:sub")); wtm_at "k:sub") | (with_reducible refine sub_cons ?_; wtm_at "k:sub") | (with_reducible refine sub_appl ?_; wtm_at "k:sub") | (with_reducible refine sub_appr ?_; wtm_at "k:sub"))
  k_with "k:front" => (first | exact Front.head | exact Front.tail (by wtm_at "k:front") | exact Front.app (by wtm_at "k:front"))
  k_with "eval Name" => ((k_here; (fail_if_success (fail_if_success ((with_reducible refine loc_first ?_ ?_); (focus (k_dflt rfl))))); k_dflt (refine' nameX_L (by k_asm) (by first | rfl | assumption) ?_ (by rfl) (by rfl); k_whole)))
  k_with "eval Name" => ((k_here; (with_reducible show wpAny _ _ (eval (Expr.Name _ _) (envX _ _ _ _ _ _)) _ _ _); k_dflt (first
  | (refine' nameX_L (by k_asm) (by first | rfl | assumption) ?_ (by rfl) (by rfl); k_whole)
  | (refine' nameX_F (by k_asm) (by rfl) (by k_mem) (by k_asm) ?_ (by rfl) (by rfl); k_whole)
  | (refine' nameX_C (by k_asm) (by rfl) (by k_mem) (by k_asm) ?_ (by rfl) (by rfl); k_whole)
  | (refine' nameX_K (by k_asm) (by k_asm) (by k_asm) (by k_is) ?_ (by rfl) (by rfl); k_whole)
  | (refine' nameX_B (by k_asm) (by k_asm) (by k_asm) (by k_is) (by boot_fast) (by decide) ?_ (by rfl) (by rfl); k_whole))))
  k_with "k:all" => (first | with_reducible assumption | exact List.forall_mem_nil _ | (with_reducible refine List.forall_mem_cons.mpr ⟨?_, ?_⟩; (focus k_ne); wtm_at "k:all") | (with_reducible refine List.forall_mem_append.mpr ⟨?_, ?_⟩; (focus (wtm_at "k:all")); wtm_at "k:all") | exact Ap.ne (by with_reducible assumption) (by wtm_at "k:mem") | exact lts_ne (by with_reducible assumption) (by omega) | exact gts_ne (by with_reducible assumption) (by omega) | exact lts_sub_ne (by with_reducible assumption) (by wtm_at "k:sub"))
  k_with "callWith ref" => ((k_here; k_dflt (refine' callWith_F (TakeIn.fnAt (by k_asm) (by assumption) (by wtm_at "k:sub")) ?_)))
  k_with "And" => (((with_reducible show FnAt _ _ ∧ _); refine' ⟨TakeIn.fnAt (by k_asm) (by assumption) (by wtm_at "k:sub"), ?_⟩; try dsimp only [List.nil_append, List.cons_append]))
  k_with "call ref" => ((k_here; k_dflt (refine' take_call (by assumption) (by k_asm) (by k_asm) (by k_asm) (by k_asm) (by k_asm) (by wtm_at "k:front") (by wtm_at "k:sub") (by wtm_at "k:all") (by first | assumption | rfl) (by assumption) (by omega) (by omega) (by omega) (by omega) (by omega) (by omega) ?_); intro _ _ _ _ _ _ _ _ _; (try k_sweep)))
  k_with "k:haltX" => ((with_reducible show wpAny _ _ (exec (Stmt.Assign _ (Expr.ListComp _ _ _ _) _) _) _ _ _))
  k_with "k:haltX" => ((with_reducible show wpAny _ _ (exec (Stmt.For _ _ _ _ _) _) _ _ _))
  k_with "k:haltE" => ((with_reducible show wpAny _ _ (eval (Expr.ListComp _ _ _ _) _) _ _ _))
  k_with "k:halt" => (wtm_at "k:haltO")
  k_with "k:halt" => (wtm_at "k:haltE")
  k_with "k:halt" => (wtm_at "k:haltX")
  k_with "k:go" => ((try k_fold); repeat' ((fail_if_success (wtm_at "k:halt")); wtm_at "k:k1"))
  k_with "k:haltO" => ((with_reducible show LCg.CompEnd _ _ _ _ _ _ _ _ _ _ _ _ _ _))
  k_with "k:haltO" => ((with_reducible show TurnEnd _ _ _ _ _ _ _ _ _))
  k_with "call type:tuple" => ((k_here; (with_reducible show wpAny _ _ (call (Value.type _) [Value.ref _]) _ _ _); k_dflt (refine' kde_tupleOf (by k_asm) (by k_asm) (by exact News.isList (by k_asm) (by k_mem)) (by ((have hq9 := IntsAre.length (by assumption)); (simp only [List.size_toArray]); omega)) (by rfl) ?_; k_whole); intro _ _ _ _ l1; (try k_lt l1); (try k_sweep)); (try (revert l1; intro _)))
  k_with "k:haltE" => ((with_reducible show wpAny _ _ (call (Value.builtin "list.append") _) _ _ _))
  k_with "subscriptTail Attribute" => ((k_here; k_dflt (refine kba_turn (value' := PySem.Expr.Name (PySem.Str.ofString "_") ⟨0, 0, 0, 0⟩) (fun _ => rfl) ?_)))
  k_with "subscriptTail Subscript" => ((k_here; k_dflt (refine kba_turn (value' := PySem.Expr.Name (PySem.Str.ofString "_") ⟨0, 0, 0, 0⟩) (fun _ => rfl) ?_)))
  k_with "subscriptTail" => (wtm_at "k:fsub")
  k_with "subscriptTail Name Name ref int" => (wtm_at "k:fsub")
  k_with "subscriptTail Name Name str int" => (wtm_at "k:fsub")
  k_with "subscriptTail Name Name ref str" => (wtm_at "k:fsub")
  k_with "subscriptTail Name Constant ref int" => (wtm_at "k:fsub")
  k_with "subscriptTail Name Constant str int" => (wtm_at "k:fsub")
  k_with "subscriptTail Name Constant ref str" => (wtm_at "k:fsub")
  k_with "subscriptTail Name BinOp ref int" => (wtm_at "k:fsub")
  k_with "subscriptTail Name BinOp str int" => (wtm_at "k:fsub")
  k_with "subscriptTail Name BinOp ref str" => (wtm_at "k:fsub")
  k_with "execs cons" => ((k_here; (with_reducible refine gen_toks ?_); (intro (tk : Nat))))
  k_with "execs nil" => ((k_here; (with_reducible refine gen_toks ?_); (intro (tk : Nat))))
  k_with "k:haltO" => ((with_reducible show Hold _))
  trivial
section
/-- the empty set as it lies -/
abbrev setE (led : Bool) : Obj := { cls := .type "set", dict := none, data := .set #[] 0 (.fresh 0 0 led) }
abbrev setIt (S : Addr) : Obj := { cls := .type "set_iterator", data := .fields #[.int 0 0, .int 0 0, .ref S, .int 0 0, .int 0 0] }
theorem slot_setit_next : Slot "set_iterator" "__next__" "set_iterator.__next__" :=
  .of (owner := "set_iterator") (n := "__next__") (by rw [typeLookup_type, builtinLookup_eq_fast]; kernel_rfl) (by decide +kernel) (by decide +kernel) (by decide +kernel)
    (by first | exact .inl (by decide +kernel) | exact .inr (by decide +kernel)) (by rw [isSubtype_type]; kernel_rfl)
theorem slot_setit_iter : Slot "set_iterator" "__iter__" "set_iterator.__iter__" :=
  .of (owner := "set_iterator") (n := "__iter__") (by rw [typeLookup_type, builtinLookup_eq_fast]; kernel_rfl) (by decide +kernel) (by decide +kernel) (by decide +kernel)
    (by first | exact .inl (by decide +kernel) | exact .inr (by decide +kernel)) (by rw [isSubtype_type]; kernel_rfl)
theorem entry_setit_next : entryFor table "set_iterator.__next__" = some Builtin.«set_iterator.__next__» := entryFor_of_tree (by kernel_rfl)
theorem entry_setit_iter : entryFor table "set_iterator.__iter__" = some Builtin.«dict_keyiterator.__iter__» :=
  entryFor_alias (id' := "dict_keyiterator.__iter__") (by rw [fastTable_eq_tree]; kernel_rfl) rfl (by decide +kernel) (by rw [fastTable_eq_tree]; kernel_rfl)
theorem entry_set_iter : entryFor table "set.__iter__" = some Builtin.«frozenset.__iter__» :=
  entryFor_alias (id' := "frozenset.__iter__") (by rw [fastTable_eq_tree]; kernel_rfl) rfl (by decide +kernel) (by rw [fastTable_eq_tree]; kernel_rfl)
theorem owner_setit : Manifest.owners.lookup (String.ofList ['r', 'o', 't', 'a', 'r', 'e', 't', 'i', '_', 't', 'e', 's'].reverse) = some Manifest.sig_set_iterator := by kernel_rfl
theorem args_setit_next (a : Value) : argsOk "set_iterator.__next__" ⟨[a], []⟩ := by
  unfold argsOk; rw [signature?_of (id := "set_iterator.__next__") (n := ['_', '_', 't', 'x', 'e', 'n', '_', '_']) (o := ['r', 'o', 't', 'a', 'r', 'e', 't', 'i', '_', 't', 'e', 's']) (by kernel_rfl) owner_setit]; kernel_rfl
theorem args_setit_iter (a : Value) : argsOk "set_iterator.__iter__" ⟨[a], []⟩ := by
  unfold argsOk; rw [signature?_of (id := "set_iterator.__iter__") (n := ['_', '_', 'r', 'e', 't', 'i', '_', '_']) (o := ['r', 'o', 't', 'a', 'r', 'e', 't', 'i', '_', 't', 'e', 's']) (by kernel_rfl) owner_setit]; kernel_rfl
section
variable {prog : Program} {w : World} {A : Around} {E : Value → Shared → Prop} {s : Shared} {S I : Addr} {led : Bool}
theorem setE_iter {Q : Value → Shared → Prop} (hs : s.heap.get? S = some (setE led)) (hQ : Q (.ref s.heap.objs.size) { s with heap := s.heap.push (setIt S) }) : wpAny (model prog w) A (pyIter (.ref S)) Q E s := by
  have hT : s.TypeIs (.ref S) "set" := ⟨_, hs, rfl⟩
  refine wpAny_pyIter_slot hT F.slot_set_iter (wpAny_call_entry F.slot_set_iter hT entry_set_iter ?_ (F.args_set_iter_1 _))
  unfold Builtin.«frozenset.__iter__»
  refine wpAny_bind (m := Builtin.Frozenset.slot0 _ _) (wpAny_pure ?_)
  refine wpAny_bind (m := Builtin.Frozenset.sizeOf _) (wpAny_bind (wpAny_setEntries_of hs rfl rfl (wpAny_pure ?_)))
  refine wpAny_bind (m := setDrawn _) ?_
  unfold setDrawn setsByText
  refine wpAny_bind (wpAny_setState_of hs rfl rfl ?_)
  refine wpAny_bind (wpAny_bind (wpAny_askSetting (wpAny_pure ?_)))
  refine wpAny_pure ?_
  generalize (model prog w).w.params.followText "set-order" = b
  refine wpAny_ite_split (fun h => absurd h (by cases b <;> exact Bool.false_ne_true)) (fun _ => ?_)
  refine wpAny_bind (wpAny_pure ?_)
  refine wpAny_bind (wpAny_setEpoch_of hs rfl rfl ?_)
  refine wpAny_bind (m := newFields _ _) (wpAny_newObj_type ?_)
  exact wpAny_pure ⟨_, rfl, "set_iterator", _, ⟨_, Heap.get?_push_size _ rfl, rfl⟩, slot_setit_next.lookup, hQ⟩
theorem setIt_self {Q : Value → Shared → Prop} (hi : s.heap.get? I = some (setIt S)) (hQ : Q (.ref I) s) : wpAny (model prog w) A (pyIter (.ref I)) Q E s := by
  have hT : s.TypeIs (.ref I) "set_iterator" := ⟨_, hi, rfl⟩
  refine wpAny_pyIter_slot hT slot_setit_iter (wpAny_call_entry slot_setit_iter hT entry_setit_iter ?_ (args_setit_iter _))
  show wpAny _ _ (ret (.ref I)) _ _ s
  exact wpAny_pure ⟨_, rfl, "set_iterator", _, hT, slot_setit_next.lookup, hQ⟩
theorem setNext_none {slot : Nat} {Q : Option (Value × Nat) → Shared → Prop} (hs : s.heap.get? S = some (setE led)) (hQ : Q none s) : wpAny (model prog w) A (setNext S slot 0 0) Q E s := by
  unfold setNext setsByText
  refine wpAny_bind (wpAny_setState_of hs rfl rfl ?_)
  refine wpAny_bind (wpAny_bind (wpAny_askSetting (wpAny_pure ?_)))
  generalize hb : (model prog w).w.params.followText "set-order" = b
  cases b
  · refine wpAny_ite_split (fun h => absurd h Bool.false_ne_true) (fun _ => ?_)
    refine wpAny_ite_split (fun h => absurd h (by cases led <;> exact Bool.false_ne_true)) (fun _ => ?_)
    refine wpAny_bind (wpAny_of_eq (a := ()) (by cases led <;> rfl) ?_)
    exact wpAny_pure hQ
  · refine wpAny_ite_split (fun _ => ?_) (fun h => absurd rfl h)
    refine wpAny_ite_split (fun h => absurd h (by decide)) (fun _ => ?_)
    refine wpAny_bind ?_
    unfold setWalk setsByText
    refine wpAny_bind (wpAny_setState_of hs rfl rfl ?_)
    refine wpAny_bind (wpAny_bind (wpAny_askSetting (wpAny_pure ?_)))
    refine wpAny_ite_split (fun _ => ?_) (fun h => absurd hb h)
    refine wpAny_bind (wpAny_askSetting ?_)
    exact wpAny_pure (wpAny_pure hQ)
theorem setIt_end {Q : Option Value → Shared → Prop} (hh : A.handled = none) (hi : s.heap.get? I = some (setIt S)) (hs : s.heap.get? S = some (setE led))
    (hQ : ∀ h', Heap.ExtBut I s.heap h' → Q none { s with heap := h' }) : wpAny (model prog w) A (pyNext (.ref I)) Q E s := by
  have hT : s.TypeIs (.ref I) "set_iterator" := ⟨_, hi, rfl⟩
  unfold pyNext
  refine wpAny_bind (wpAny_attempt (wpAny_callSpecial?_slot (name := Str.ofString "__next__") hT slot_setit_next
    (wpAny_call_entry slot_setit_next hT entry_setit_next ?_ (args_setit_next _))))
  unfold Builtin.«set_iterator.__next__»
  refine wpAny_bind (wpAny_pure ?_)
  refine wpAny_bind (wpAny_fieldsOf hi rfl ?_)
  dsimp only
  refine wpAny_bind (wpAny_setEntries_of hs rfl rfl ?_)
  refine wpAny_ite_split (fun h => absurd h (by decide)) (fun _ => ?_)
  refine wpAny_bind (setNext_none hs ?_)
  dsimp only
  refine wpAny_bind (wpAny_setField hi rfl (by simp) ?_)
  refine wpAny_bind ?_
  simp only [newExc, newTuple]
  refine wpAny_bind (wpAny_newObj_type ?_ (by size_fits))
  refine wpAny_bind (m := firstArgMember _ _) (wpAny_of_eq (a := Value.none) (by first | rfl | (simp only [firstArgMember]; rfl)) ?_)
  refine wpAny_newObj_type ?_ (by size_fits)
  simp only [raiseNew]
  refine wpAny_bind (wpAny_handled ?_)
  rw [show A.in1.handled = none from hh]
  refine wpAny_bind (wpAny_pure (wpAny_throw ?_))
  refine wpAny_bind (wpAny_isInstance (T := "StopIteration") (b := true) ⟨_, Heap.get?_push_size _ rfl, rfl⟩ isSubtype_stop ?_)
  exact wpAny_pure (hQ _ (((Heap.SameBut.update ..).extBut.push _).push _))
theorem setE_hint {Q : Bool → Shared → Prop} (hT : s.TypeIs (.ref S) "set") (h : Q false s) : wpAny (model prog w) A (Builtin.List.listLengthHint (.ref S)) Q E s := by
  unfold Builtin.List.listLengthHint
  refine wpAny_bind (wpAny_specialOf hT PySem.F.slot_set_len.lookup ?_)
  generalize hid : ("set.__len__" : String) = id0
  wp_delta
  rw [show splitId id0 = some ("set", "__len__") from by subst hid; decide +kernel]
  subst hid
  refine wpAny_bind (wpAny_isInstance (T := "set") (b := true) hT (by rw [isSubtype_type]; kernel_rfl) ?_)
  refine wpAny_ite_split (fun hab => absurd hab (by decide)) (fun _ => ?_)
  refine wpAny_ite_split (fun _ => ?_) (fun hab => absurd (by decide +kernel) hab)
  refine wpAny_bind (wpAny_typeOf hT ?_)
  exact wpAny_pure h
theorem setE_src : KdlSrc prog w "set" S S 0 (fun _ _ => False) (fun h => h.get? S = some (setE led)) where
  type := fun _ hm => ⟨_, hm, rfl⟩
  there := fun _ hm => ⟨Heap.lt_size hm, Heap.lt_size hm⟩
  keep := fun _ _ hm hk => hk S (.inl rfl) _ hm
  notList := by decide
  notTuple := by decide
  hint := fun _ _ _ _ hm hq => setE_hint ⟨_, hm, rfl⟩ hq
  iter := fun A s hh hm => ⟨setIt S, fun _ h => h.get? s.heap.objs.size = some (setIt S) ∧ h.get? S = some (setE led), (fun _ _ hq => setE_iter hm hq),
    { sub := fun b hb => by simp at hb; simp [hb]
      frame := fun _ _ _ st hk => ⟨hk _ (by simp) _ st.1, hk _ (by simp) _ st.2⟩
      item := fun i _ _ _ hi => absurd hi (Nat.not_lt_zero _)
      done := fun s' Q E st hQ => setIt_end hh st.1 st.2 fun h' he' => hQ h' s'.toks fun b o hb e => he' b o (fun h => hb (by simp [h])) e
      self := fun _ _ _ _ st hQ => setIt_self st.1 hQ }, ⟨Heap.get?_push_size _ rfl, Heap.get?_push_of_some _ hm⟩⟩
theorem sortedE {h₀ : Heap} {L : Addr} {m : Str → Option Value} {news : Led} {Q : Value → Shared → Prop} (hh : A.handled = none) (F : Fr h₀ L s.heap m) (N : News h₀ L s.heap news) (hm : (S, setE led) ∈ news)
    (h : ∀ D h' tk, Fr h₀ L h' m → News h₀ L h' (news) → Q (.ref D) { s with heap := h', toks := tk }) :
    wpAny (model prog w) A (call (.builtin "sorted") [.ref S]) Q E s := by
  refine kdu_sorted (setE_src (led := led)) hh F N (N _ hm).1 (by rw [sizeLine_eq]; omega) fun D h' tk vs F' N' l1 hl _ => ?_
  obtain rfl := List.eq_nil_of_length_eq_zero hl
  have z := N' (D, listOf (List.toArray []) 0) List.mem_cons_self
  have hk : ∀ b o, b ≠ D → h'.get? b = some o → (sortedHeap h' D [] (List.toArray [])).get? b = some o := fun b o hb e => (sortedHeap_old hb (Heap.lt_size e)).trans e
  have F2 : Fr h₀ L (sortedHeap h' D [] (List.toArray [])) m := ⟨F'.ns.at' fun o e => hk L o (Ne.symm z.2.1) e, fun b o e => hk b o (fun q => by rw [q, z.2.2] at e; cases e) (F'.keep b o e), F'.above⟩
  have N2 : News h₀ L (sortedHeap h' D [] (List.toArray [])) news := fun p hp => ⟨hk _ _ (Nat.ne_of_lt (l1 p hp)) (N' p (List.mem_cons_of_mem _ hp)).1, (N' p (List.mem_cons_of_mem _ hp)).2⟩
  exact wpAny_call_entry slot_list_sort ⟨_, z.1, rfl⟩ entry_list_sort (list_sort1 (n := 0) (vs := []) (by decide) z.1 ⟨.none, rfl, h D _ _ F2 N2⟩) (args_list_sort _)
theorem sub_vals_set : isSubtype (.type "dict_values") (.type "set") = pure false := by rw [isSubtype_type]; kernel_rfl
theorem sub_vals_frozen : isSubtype (.type "dict_values") (.type "frozenset") = pure false := by rw [isSubtype_type]; kernel_rfl
set_option maxHeartbeats 3200000 in
theorem setOfE {v d : Addr} {P : Nat → Value → Prop} {OK : Heap → Prop} {Q : Value → Shared → Prop} (K : KdlSrc prog w "dict_values" v d 0 P OK) (hok : OK s.heap) (hh : A.handled = none)
    (h : ∀ (h' : Heap) (tk : Nat) led, h'.get? s.heap.objs.size = some (setE led) → (∀ b o, b < s.heap.objs.size → s.heap.get? b = some o → h'.get? b = some o) → Q (.ref s.heap.objs.size) { s with heap := h', toks := tk }) :
    wpAny (model prog w) A (call (.type "set") [.ref v]) Q E s := by
  obtain ⟨c, tl, hmro⟩ := F.called_set.mro
  have hmade := F.called_set.made
  have hsub := F.called_set.sub
  refine wpAny_call (codeAny_of_tree ?_)
  show wpAny _ _ (callAny (.type "set") _) _ _ _
  refine wpAny_pure ⟨Code.quiet_builtin _ (by decide +kernel), codeAny_builtin F.entry_type_call ?_⟩
  rw [Around.under_plain (weight_type_call_type "set" [.ref v] []) rfl]
  have h1 := F.called_set.notType
  have h2 := F.called_set.canCreate
  have hct := F.typeCall_set_1 (.ref v)
  repeat (any_goals (first | assumption | wp_step))
  refine codeAny_mono (code_set_new_1 (.ref v) (E := E) (Q₁ := fun obj s₁ => ∃ led : Bool, obj = .ref s.heap.objs.size ∧ s₁ = { s with heap := s.heap.push (setE led) }) fun led => ⟨led, rfl, rfl⟩) fun r s₁ hr => ?_
  cases r with
  | error e => exact hr
  | ok fl =>
    cases fl with
    | ret obj =>
      obtain ⟨led, rfl, rfl⟩ := hr
      have hS : (s.heap.push (setE led)).get? s.heap.objs.size = some (setE led) := Heap.get?_push_size _ rfl
      have hT : Shared.TypeIs { s with heap := s.heap.push (setE led) } (.ref s.heap.objs.size) "set" := ⟨_, hS, rfl⟩
      have hli := F.called_set.init.lookup
      have hbi := F.called_set.init.bind (.ref s.heap.objs.size)
      repeat (any_goals (first | assumption | wp_step))
      refine codeAny_mono (codeAny_call_builtin (R := wants (fun r s₂ => ShP1V2P3 (r = .none) (fun h' tk => s₂ = { s with heap := h', toks := tk }) (fun h' tk => h'.get? s.heap.objs.size = some (setE led)) (fun h' tk => (∀ b o, b < s.heap.objs.size → s.heap.get? b = some o → h'.get? b = some o))) E) F.called_set.init.plain F.entry_set_init (check_set_init_1 hT ?_)) fun r₂ s₂ hr₂ => ?_
      · have hok1 : OK (s.heap.push (setE led)) := K.keep _ _ hok fun b _ o e => Heap.get?_push_of_some _ e
        have hTv : Shared.TypeIs { s with heap := s.heap.push (setE led) } (.ref v) "dict_values" := K.type _ hok1
        have hsls := sub_vals_set
        have hslf := sub_vals_frozen
        have hne : (Value.type "dict_values" == Value.type "dict") = false := by decide
        unfold Builtin.«set.__init__» noKeywords Builtin.Frozenset.updateFrom
        generalize hPI : pyIter = PI
        wp_walk
        subst hPI
        obtain ⟨oI, St, hit, W, st⟩ := K.iter A.in1.in1.in1 { s with heap := s.heap.push (setE led) } hh hok1
        refine wpAny_of_in1 (hit _ _ ?_)
        refine wpAny_bind (wpAny_runValue ?_)
        refine codeAny_builtin PyProof.Rows.F.entry_set_update_loop ?_
        rw [Around.under_plainId PyProof.Rows.F.plain_set_update_loop _]
        show wpAny _ A.in1.in1.in1 (pyNext (.ref (s.heap.push (setE led)).objs.size) >>= _) _ _ _
        refine wpAny_bind (W.done _ _ _ st fun h' tk hk => ?_)
        show wpAny _ A.in1.in1.in1 (ret Value.none) _ _ _
        refine wpAny_pure ?_
        show wpAny _ _ _ _ _ _
        refine wpAny_pure ?_
        show wpAny _ _ (ret Value.none) _ _ _
        have hz : (s.heap.push (setE led)).objs.size = s.heap.objs.size + 1 := by rw [Heap.size_push]
        have key : ∀ b o, b < s.heap.objs.size + 1 → (s.heap.push (setE led)).get? b = some o → h'.get? b = some o := fun b o hb e => hk b o (by rw [List.mem_singleton]; show b ≠ (s.heap.push (setE led)).objs.size; rw [hz]; exact Nat.ne_of_lt hb) (Heap.get?_push_of_some _ e)
        exact wpAny_pure ⟨rfl, h', tk, rfl, key _ _ (Nat.lt_succ_self _) hS, fun b o hb e => key b o (Nat.lt_succ_of_lt hb) (Heap.get?_push_of_some _ e)⟩
      · cases r₂ with
        | error e => exact hr₂
        | ok fl₂ =>
          cases fl₂ with
          | ret r =>
            obtain ⟨rfl, h', tk, rfl, hS', hk'⟩ := hr₂
            repeat (any_goals (first | assumption | wp_step))
            exact h _ _ _ hS' hk'
          | _ => exact hr₂.elim
    | _ => exact hr.elim
end
section
variable {w : World} {A : Around} {E : Value → Shared → Prop} {s : Shared} {h₀ : Heap} {L d : Addr} {m : Str → Option Value} {news : Led} {o : Obj}
theorem setOf_vals {v : Addr} {Q : Value → Shared → Prop} (hh : A.handled = none) (F : Fr h₀ L s.heap m) (N : News h₀ L s.heap news) (hv : (v, { cls := .type "dict_values", data := .fields #[.ref d] }) ∈ news) (hp : (d, o) ∈ news) (hd : o.IsDictOf (intKind prg w) [])
    (h : ∀ S h' tk led, Fr h₀ L h' m → News h₀ L h' ((S, setE led) :: news) → (∀ p ∈ news, @LT.lt Nat _ p.1 S) → Q (.ref S) { s with heap := h', toks := tk }) :
    wpAny (model prg w) A (call (.type "set") [.ref v]) Q E s := by
  have hat := kda_dict N hp hd
  obtain ⟨ep, hat⟩ := hat.dictAt
  refine setOfE (kdl_values (knd := PySem.intKind prg w) (kvs := []) (ep := ep)) ⟨⟨_, (N _ hv).1, rfl, rfl⟩, hat⟩ hh fun h' tk led hS hk => ?_
  obtain ⟨oL, _, _, hL, _⟩ := F.ns
  have hLlt : L < s.heap.objs.size := Heap.lt_size hL
  refine h _ h' tk led ⟨F.ns.at' fun o' e => hk L o' hLlt e, fun b o' e => hk b o' (Heap.lt_size (F.keep b o' e)) (F.keep b o' e), F.above⟩ (fun p hp => ?_) (fun p hp => Heap.lt_size (N p hp).1)
  rcases List.mem_cons.mp hp with rfl | hp
  · refine ⟨hS, Nat.ne_of_gt hLlt, ?_⟩
    cases hq : h₀.get? s.heap.objs.size with
    | none => rfl
    | some o' => exact absurd (Heap.lt_size (F.keep _ _ hq)) (Nat.lt_irrefl _)
  · exact ⟨hk _ _ (Heap.lt_size (N p hp).1) (N p hp).1, (N p hp).2.1, (N p hp).2.2⟩
end
theorem cut_make {w : World} {dp un : Nat} {gd : Option (List Code)} {cn : Str} {cs : Scope} {a : Addr} {ccd : Value} {cl : List (Str × Addr)} {outer : List Env} {A₀ : Around} {base h₀ : Heap} {L : Addr} {m mg mb : Str → Option Value} {mean : ExcName → Option Value} {tP : Program} {tL : List Str}
    {news : List (Addr × Obj)} {s : Shared} {Q E : Value → Shared → Prop} {wv lv : Value}
    (B : Below A₀ base outer h₀) (F : Fr h₀ L s.heap m) (X : (hd.heap_1 w.params).In h₀) (N : News h₀ L s.heap news) (T : Top tP tL mean mg mb h₀) (hk : cs.kind = .function)
    (hdp : dp + 150 < recursionLimit) (hun : un + 300 < cLine)
    (ret : ∀ x dx t1 t2 t3 t4 h' tks, Fr h₀ L h' m → News h₀ L h' ((x, instObj 175 dx) :: (dx, dictOf [att w "way" t1 wv, att w "length" t2 lv, att w "front" t3 .none, att w "back" t4 .none] 4) :: news) → (∀ p ∈ news, @LT.lt Nat _ p.1 dx) → @LT.lt Nat _ dx x → Q (.ref x) { s with heap := h', toks := tks }) :
    wpAny (model prg w) (ktrTop dp un gd cn cs L a ccd cl outer) (call (.ref 175) [wv, lv, .none, .none]) Q E s := by
  obtain ⟨kd, nm, b1, b2, mo⟩ := cs
  cases hk
  wtm_at "k:k1"
  rename_i x dx _ _ _ l1 l1' l2 _ _ _ _ _ _ _ _ _
  wtm_at "k:go"
  rename_i kF kN _ _
  exact ret _ _ _ _ _ _ _ _ kF kN l1 l2
theorem step_make {w : World} {dp un : Nat} {gd : Option (List Code)} {cn : Str} {cs : Scope} {a : Addr} {ccd : Value} {cl : List (Str × Addr)} {outer : List Env} {A₀ : Around} {base h₀ : Heap} {L : Addr} {m mg mb : Str → Option Value} {mean : ExcName → Option Value} {tP : Program} {tL : List Str}
    {news : List (Addr × Obj)} {s : Shared} {Q E : Value → Shared → Prop} {wv : Value}
    (B : Below A₀ base outer h₀) (F : Fr h₀ L s.heap m) (X : (hd.heap_1 w.params).In h₀) (N : News h₀ L s.heap news) (T : Top tP tL mean mg mb h₀) (hk : cs.kind = .function)
    (hdp : dp + 150 < recursionLimit) (hun : un + 300 < cLine)
    (ret : ∀ x dx t1 t2 h' tks, Fr h₀ L h' m → News h₀ L h' ((x, instObj 701 dx) :: (dx, dictOf [att w "word" t1 wv, att w "worth" t2 .none] 2) :: news) → (∀ p ∈ news, @LT.lt Nat _ p.1 dx) → @LT.lt Nat _ dx x → Q (.ref x) { s with heap := h', toks := tks }) :
    wpAny (model prg w) (ktrTop dp un gd cn cs L a ccd cl outer) (call (.ref 701) [wv]) Q E s := by
  obtain ⟨kd, nm, b1, b2, mo⟩ := cs
  cases hk
  wtm_at "k:k1"
  rename_i x dx _ _ _ l1 l1' l2 _ _ _ _ _ _ _ _ _
  wtm_at "k:go"
  rename_i kF kN _ _
  exact ret _ _ _ _ _ _ kF kN l1 l2
theorem rule_make {w : World} {dp un : Nat} {gd : Option (List Code)} {cn : Str} {cs : Scope} {a : Addr} {ccd : Value} {cl : List (Str × Addr)} {outer : List Env} {A₀ : Around} {base h₀ : Heap} {L : Addr} {m mg mb : Str → Option Value} {mean : ExcName → Option Value} {tP : Program} {tL : List Str}
    {news : List (Addr × Obj)} {s : Shared} {Q E : Value → Shared → Prop} {v1 v2 v4 v5 : Value}
    (B : Below A₀ base outer h₀) (F : Fr h₀ L s.heap m) (X : (hd.heap_1 w.params).In h₀) (N : News h₀ L s.heap news) (T : Top tP tL mean mg mb h₀) (hk : cs.kind = .function)
    (hdp : dp + 150 < recursionLimit) (hun : un + 300 < cLine)
    (ret : ∀ x dx t1 t2 t3 t4 t5 h' tks, Fr h₀ L h' m → News h₀ L h' ((x, instObj 762 dx) :: (dx, dictOf [att w "number" t1 v1, att w "conditions" t2 v2, att w "pattern" t3 .none, att w "steps" t4 v4, att w "line" t5 v5] 5) :: news) → (∀ p ∈ news, @LT.lt Nat _ p.1 dx) → @LT.lt Nat _ dx x → Q (.ref x) { s with heap := h', toks := tks }) :
    wpAny (model prg w) (ktrTop dp un gd cn cs L a ccd cl outer) (call (.ref 762) [v1, v2, .none, v4, v5]) Q E s := by
  obtain ⟨kd, nm, b1, b2, mo⟩ := cs
  cases hk
  wtm_at "k:k1"
  rename_i x dx _ _ _ l1 l1' l2 _ _ _ _ _ _ _ _ _
  wtm_at "k:go"
  rename_i kF kN _ _
  exact ret _ _ _ _ _ _ _ _ _ kF kN l1 l2
def StepL (w : World) (l : Led) (v : Value) (word : Str) : Prop := ShV5P3 (fun x dx t0 t1 t2 => v = .ref x) (fun x dx t0 t1 t2 => (x, instObj 701 dx) ∈ l) (fun x dx t0 t1 t2 => (dx, dictOf [att w "word" t1 (.str word t0), att w "worth" t2 .none] 2) ∈ l)
theorem StepL.mono {w : World} {l l' : Led} {v : Value} {c : Str} (hs : ∀ p ∈ l, p ∈ l') (h : StepL w l v c) : StepL w l' v c := let ⟨x, dx, t0, t1, t2, e, h1, h2⟩ := h; ⟨x, dx, t0, t1, t2, e, hs _ h1, hs _ h2⟩
def stepWords (b : Bool) : List Str := if b then [Str.ofString "echo", Str.ofString "reject"] else [Str.ofString "echo"]
def RuleL (w : World) (l : Led) (v : Value) (b : Bool) : Prop := ShV13P5 (fun x dx ls vs n v1 v2 v5 t1 t2 t3 t4 t5 => v = .ref x) (fun x dx ls vs n v1 v2 v5 t1 t2 t3 t4 t5 => (x, instObj 762 dx) ∈ l) (fun x dx ls vs n v1 v2 v5 t1 t2 t3 t4 t5 => (dx, dictOf [att w "number" t1 v1, att w "conditions" t2 v2, att w "pattern" t3 .none, att w "steps" t4 (.ref ls), att w "line" t5 v5] 5) ∈ l) (fun x dx ls vs n v1 v2 v5 t1 t2 t3 t4 t5 => (ls, listOf (List.toArray vs) n) ∈ l) (fun x dx ls vs n v1 v2 v5 t1 t2 t3 t4 t5 => All2 (StepL w l) vs (stepWords b))
theorem RuleL.mono {w : World} {l l' : Led} {v : Value} {b : Bool} (hs : ∀ p ∈ l, p ∈ l') (h : RuleL w l v b) : RuleL w l' v b := by
  obtain ⟨x, dx, ls, vs, n, v1, v2, v5, t1, t2, t3, t4, t5, e, h1, h2, h3, h4⟩ := h
  exact ⟨x, dx, ls, vs, n, v1, v2, v5, t1, t2, t3, t4, t5, e, hs _ h1, hs _ h2, hs _ h3, h4.mono fun _ _ => StepL.mono hs⟩
theorem rej_spec {w : World} {dp un : Nat} {gd : Option (List Code)} {cn : Str} {cs : Scope} {a : Addr} {ccd : Value} {cl : List (Str × Addr)} {outer : List Env} {A₀ : Around} {base h₀ : Heap} {L : Addr} {m mg mb : Str → Option Value} {mean : ExcName → Option Value} {tP : Program} {tL : List Str}
    {news : List (Addr × Obj)} {s : Shared} {R : Result → Shared → Prop} {rl : Addr} {rvs : List Value} {rn : Nat} {bs : List Bool}
    (B : Below A₀ base outer h₀) (F : Fr h₀ L s.heap m) (X : (hd.heap_1 w.params).In h₀) (N : News h₀ L s.heap news) (T : Top tP tL mean mg mb h₀) (hk : cs.kind = .function)
    (hdp : dp + 100 < recursionLimit) (hun : un + 300 < cLine) (hm : (rl, listOf (List.toArray rvs) rn) ∈ news) (hall : All2 (RuleL w news) rvs bs)
    (ret : ∀ h' tks, Fr h₀ L h' m → News h₀ L h' news → R (.ok (.ret (.bool (bs.any id)))) { s with heap := h', toks := tks }) :
    codeAny (model prg w) (ktrTop dp un gd cn cs L a ccd cl outer) (.call (.ref 235) ⟨[.ref rl], []⟩) R s := by
  obtain ⟨kd, nm, b1, b2, mo⟩ := cs
  cases hk
  k_dflt (refine' code_def (env := envX cn ⟨.function, nm, b1, b2, mo⟩ L a ccd cl) (outer := outer) B F X N T ?kA ?kF rfl ?k6 ?k7 ?k8 ?k9 ?kB ?_ ?c2 ?c3 ?c4 ?c5; (case kA => exact rfl); (case kF => exact rfl); (case k6 => k_is); (case k7 => k_is); (case k8 => k_room); (case k9 => exact BindsTo.of_eq (binds := [(Str.ofString "rules", .ref rl)]) rfl); (case c5 => decide); (case kB => exact locs rfl); (case c2 => exact rfl); (case c3 => exact rfl); (case c4 => exact rfl); k_whole)
  intro g' L' h' FG' F' N' B' X' T'
  with_reducible refine no_raise ?_
  change wpAny _ (ktrTop (dp + 1) (un + 3) gd _ _ _ _ _ [] (envX cn ⟨.function, nm, b1, b2, mo⟩ L a ccd cl :: outer)) _ _ _ _
  try dsimp only
  k_fold
  clear N
  wtm_at "k:go"
  k_dflt (refine for_src (h₀ := g') (by rfl) (by rfl) ?_)
  wtm_at "k:go"
  first | delta Hold | ((try k_unmd); k_unfold; delta Hold) | (show Hold _; delta Hold)
  refine ⟨rvs.length, _, _, _, _, Src.list rfl N' hm, F', N', fun i m nx => nx = news ∧ (bs.take i).any id = false, by rintro _ _ _ ⟨rfl, _⟩; exact hm, ⟨rfl, rfl⟩, ?turn, ?fin⟩
  case turn =>
    intro i v m₁ nx I0 oI h tk E' hi hP hJ F4 N4 off4
    obtain ⟨hnx, hnone⟩ := hJ
    have hnx := hnx.symm
    subst hnx
    change Fr g' L' h _ at F4
    change News g' L' h _ at N4
    obtain ⟨b, hb, x, dx, ls, vs, n, v1, v2, v5, t1, t2, t3, t4, t5, rfl, r1, r2, r3, r4⟩ := hall.getL i v hP
    have ht1 : (bs.take (i + 1)).any id = b := by
      rw [List.take_add_one, hb, List.any_append, hnone]
      show (false || (b || false)) = b
      cases b <;> rfl
    have hin : b = true → bs.any id = true := fun e => List.any_eq_true.mpr ⟨b, List.mem_of_getElem? hb, e⟩
    clear N'
    wtm_at "k:go"
    k_dflt (refine for_src (h₀ := g') (by rfl) (by rfl) ?_)
    wtm_at "k:go"
    first | delta Hold | ((try k_unmd); k_unfold; delta Hold) | (show Hold _; delta Hold)
    refine ⟨vs.length, _, _, _, _, Src.list rfl N4 (List.mem_cons_of_mem _ r3), F4, N4, fun j m nx => nx = (I0, oI) :: news ∧ Str.ofString "reject" ∉ (stepWords b).take j, by rintro _ _ _ ⟨rfl, _⟩; exact List.mem_cons_of_mem _ r3, ⟨rfl, by simp⟩, ?iturn, ?ifin⟩
    case iturn =>
      intro j v m₂ nx I1 oI1 h5 tk5 E5 hj hP5 hJ5 F5 N5 off5
      obtain ⟨rfl, hno⟩ := hJ5
      change Fr g' L' h5 _ at F5
      change News g' L' h5 _ at N5
      obtain ⟨wd, hw, sx, sdx, st0, st1, st2, rfl, q1, q2⟩ := r4.getL j v hP5
      have hwd : wd = Str.ofString "echo" ∨ (b = true ∧ wd = Str.ofString "reject") := by
        unfold stepWords at hw
        split at hw
        · rcases j with _ | _ | j
          · left; simpa using hw.symm
          · right; exact ⟨by assumption, by simpa using hw.symm⟩
          · simp at hw
        · rcases j with _ | j
          · left; simpa using hw.symm
          · simp at hw
      have hnx : wd = Str.ofString "echo" → Str.ofString "reject" ∉ (stepWords b).take (j + 1) := by
        rintro rfl
        rw [List.take_add_one, hw]
        intro hmem
        rcases List.mem_append.mp hmem with h | h
        · exact hno h
        · simp at h
          exact absurd h (by decide)
      clear N4
      rcases hwd with rfl | ⟨rfl, rfl⟩
      · wtm_at "k:go"
        exact TurnEnd.next F5 N5 ((I0, oI) :: news) (by wtm_at "k:sub") off5 ⟨rfl, hnx rfl⟩
      · wtm_at "k:go"
        dsimp only [TurnEnd]
        wtm_at "k:go"
        rename_i kF kN kT kX
        rw [hin rfl] at ret
        exact ret _ _ kF (News.sub kN (by wtm_at "k:sub"))
    case ifin =>
      intro h22 tk22 m₂ nx F22 N22 hJ
      obtain ⟨rfl, hno⟩ := hJ
      have hlen := All2.length r4
      rw [List.take_of_length_le (by omega)] at hno
      have hbf : b = false := by
        cases b
        · rfl
        · exact absurd (by decide) hno
      clear N4
      change Fr g' L' h22 _ at F22
      change News g' L' h22 _ at N22
      wtm_at "k:go"
      exact TurnEnd.next F22 N22 news (by wtm_at "k:sub") off4 ⟨rfl, by rw [ht1, hbf]⟩
  case fin =>
    intro h22 tk22 m₂ nx F22 N22 hJ
    obtain ⟨hnx, hno⟩ := hJ
    have hnx := hnx.symm
    subst hnx
    have hlen := All2.length hall
    rw [List.take_of_length_le (by omega)] at hno
    change Fr g' L' h22 _ at F22
    change News g' L' h22 _ at N22
    clear N'
    wtm_at "k:go"
    rename_i kF kN kT kX
    rw [hno] at ret
    exact ret _ _ kF (News.sub kN (by wtm_at "k:sub"))
end
theorem lines13 : True := by
  w_top off
  k_with_none
  k_with "k:k1" => ((first | (k_unfold; (try dsimp only)) | (k_end; wrow_close) | walk1 | (dsimp only; walk1) | (leave1; walk_say "STEP leave1"; try dsimp only) | fail "no step"))
  k_with "k:mem" => (first | exact List.mem_cons_self | ktr_member | (refine List.mem_cons_of_mem _ ?_; wtm_at "k:mem") | (refine List.mem_append_left _ ?_; wtm_at "k:mem") | (refine List.mem_append_right _ ?_; wtm_at "k:mem"))
  k_with "k:sub" => (first | with_reducible exact sub_refl | with_reducible assumption | with_reducible exact sub_nil | (with_reducible refine sub_of_cons ?_ ?_; (focus (wtm_at "k:mem")); wtm_at "k:sub") | (with_reducible refine sub_of_app ?_ ?_; (focus (wtm_at "k:sub")); wtm_at "k:sub") | (with_reducible refine sub_cons ?_; wtm_at "k:sub") | (with_reducible refine sub_appl ?_; wtm_at "k:sub") | (with_reducible refine sub_appr ?_; wtm_at "k:sub"))
  k_with "k:front" => (first | exact Front.head | exact Front.tail (by wtm_at "k:front") | exact Front.app (by wtm_at "k:front"))
  k_with "eval Name" => ((k_here; (fail_if_success (fail_if_success ((with_reducible refine loc_first ?_ ?_); (focus (k_dflt rfl))))); k_dflt (refine' nameX_L (by k_asm) (by first | rfl | assumption) ?_ (by rfl) (by rfl); k_whole)))
  k_with "eval Name" => ((k_here; (with_reducible show wpAny _ _ (eval (Expr.Name _ _) (envX _ _ _ _ _ _)) _ _ _); k_dflt (first
  | (refine' nameX_L (by k_asm) (by first | rfl | assumption) ?_ (by rfl) (by rfl); k_whole)
  | (refine' nameX_F (by k_asm) (by rfl) (by k_mem) (by k_asm) ?_ (by rfl) (by rfl); k_whole)
  | (refine' nameX_C (by k_asm) (by rfl) (by k_mem) (by k_asm) ?_ (by rfl) (by rfl); k_whole)
  | (refine' nameX_K (by k_asm) (by k_asm) (by k_asm) (by k_is) ?_ (by rfl) (by rfl); k_whole)
  | (refine' nameX_B (by k_asm) (by k_asm) (by k_asm) (by k_is) (by boot_fast) (by decide) ?_ (by rfl) (by rfl); k_whole))))
  k_with "k:all" => (first | with_reducible assumption | exact List.forall_mem_nil _ | (with_reducible refine List.forall_mem_cons.mpr ⟨?_, ?_⟩; (focus k_ne); wtm_at "k:all") | (with_reducible refine List.forall_mem_append.mpr ⟨?_, ?_⟩; (focus (wtm_at "k:all")); wtm_at "k:all") | exact Ap.ne (by with_reducible assumption) (by wtm_at "k:mem") | exact lts_ne (by with_reducible assumption) (by omega) | exact gts_ne (by with_reducible assumption) (by omega) | exact lts_sub_ne (by with_reducible assumption) (by wtm_at "k:sub"))
  k_with "callWith ref" => ((k_here; k_dflt (refine' callWith_F (TakeIn.fnAt (by k_asm) (by assumption) (by wtm_at "k:sub")) ?_)))
  k_with "And" => (((with_reducible show FnAt _ _ ∧ _); refine' ⟨TakeIn.fnAt (by k_asm) (by assumption) (by wtm_at "k:sub"), ?_⟩; try dsimp only [List.nil_append, List.cons_append]))
  k_with "call ref" => ((k_here; k_dflt (refine' take_call (by assumption) (by k_asm) (by k_asm) (by k_asm) (by k_asm) (by k_asm) (by wtm_at "k:front") (by wtm_at "k:sub") (by wtm_at "k:all") (by first | assumption | rfl) (by assumption) (by omega) (by omega) (by omega) (by omega) (by omega) (by omega) ?_); intro _ _ _ _ _ _ _ _ _; (try k_sweep)))
  k_with "k:haltX" => ((with_reducible show wpAny _ _ (exec (Stmt.Assign _ (Expr.ListComp _ _ _ _) _) _) _ _ _))
  k_with "k:haltX" => ((with_reducible show wpAny _ _ (exec (Stmt.For _ _ _ _ _) _) _ _ _))
  k_with "k:haltE" => ((with_reducible show wpAny _ _ (eval (Expr.ListComp _ _ _ _) _) _ _ _))
  k_with "k:halt" => (wtm_at "k:haltO")
  k_with "k:halt" => (wtm_at "k:haltE")
  k_with "k:halt" => (wtm_at "k:haltX")
  k_with "k:go" => ((try k_fold); repeat' ((fail_if_success (wtm_at "k:halt")); wtm_at "k:k1"))
  k_with "k:haltO" => ((with_reducible show LCg.CompEnd _ _ _ _ _ _ _ _ _ _ _ _ _ _))
  k_with "k:haltO" => ((with_reducible show TurnEnd _ _ _ _ _ _ _ _ _))
  k_with "call type:tuple" => ((k_here; (with_reducible show wpAny _ _ (call (Value.type _) [Value.ref _]) _ _ _); k_dflt (refine' kde_tupleOf (by k_asm) (by k_asm) (by exact News.isList (by k_asm) (by k_mem)) (by ((have hq9 := IntsAre.length (by assumption)); (simp only [List.size_toArray]); omega)) (by rfl) ?_; k_whole); intro _ _ _ _ l1; (try k_lt l1); (try k_sweep)); (try (revert l1; intro _)))
  k_with "k:haltE" => ((with_reducible show wpAny _ _ (call (Value.builtin "list.append") _) _ _ _))
  k_with "subscriptTail Attribute" => ((k_here; k_dflt (refine kba_turn (value' := PySem.Expr.Name (PySem.Str.ofString "_") ⟨0, 0, 0, 0⟩) (fun _ => rfl) ?_)))
  k_with "subscriptTail Subscript" => ((k_here; k_dflt (refine kba_turn (value' := PySem.Expr.Name (PySem.Str.ofString "_") ⟨0, 0, 0, 0⟩) (fun _ => rfl) ?_)))
  k_with "subscriptTail" => (wtm_at "k:fsub")
  k_with "subscriptTail Name Name ref int" => (wtm_at "k:fsub")
  k_with "subscriptTail Name Name str int" => (wtm_at "k:fsub")
  k_with "subscriptTail Name Name ref str" => (wtm_at "k:fsub")
  k_with "subscriptTail Name Constant ref int" => (wtm_at "k:fsub")
  k_with "subscriptTail Name Constant str int" => (wtm_at "k:fsub")
  k_with "subscriptTail Name Constant ref str" => (wtm_at "k:fsub")
  k_with "subscriptTail Name BinOp ref int" => (wtm_at "k:fsub")
  k_with "subscriptTail Name BinOp str int" => (wtm_at "k:fsub")
  k_with "subscriptTail Name BinOp ref str" => (wtm_at "k:fsub")
  k_with "execs cons" => ((k_here; (with_reducible refine gen_toks ?_); (intro (tk : Nat))))
  k_with "execs nil" => ((k_here; (with_reducible refine gen_toks ?_); (intro (tk : Nat))))
  k_with "call builtin:len" => ((k_here; (with_reducible show wpAny _ _ (call (Value.builtin "len") [Value.ref _]) _ _ _); k_dflt (refine' intd_len (by k_asm) (by k_mem) (by assumption) (by assumption) (by assumption) (by assumption) ?_); intro _))
  k_with "getMethod ref" => ((k_here; (with_reducible show wpAny _ _ (getMethod _ (Str.ofString "get") _) _ _ _); k_dflt (refine' intd_mget (by k_asm) (by k_mem) (by assumption) ?_)))
  k_with "getMethod ref" => ((k_here; (with_reducible show wpAny _ _ (getMethod _ (Str.ofString "keys") _) _ _ _); k_dflt (refine' intd_mkeys (by k_asm) (by k_mem) (by assumption) ?_)))
  k_with "call builtin:dict.keys" => ((k_here; k_dflt (refine' intd_keys (by k_asm) (by k_asm) (by k_mem) (by assumption) (by assumption) ?_); intro _ _ _ _ l1; (try k_lt l1)); (try (revert l1; intro _)))
  k_with "call builtin:sorted" => ((k_here; (with_reducible show wpAny _ _ (call (Value.builtin "sorted") [Value.ref _]) _ _ _); k_dflt (refine' intd_sorted (q := [0, 97, 98, 99]) (by exact rfl) (by k_asm) (by k_asm) (by k_mem) (by k_mem) (by assumption) (by decide) (by decide) (by decide) ?_); intro _ _ _ _ _ _ _ _ l1; (try k_lt l1)); (try (revert l1; intro _)))
  k_with "k:haltO" => ((with_reducible show Hold _))
  k_with "call builtin:dict.get" => ((k_here; k_dflt (refine' intd_get2 (by k_asm) (by k_mem) (by assumption) (by assumption) (by assumption) ?_); intro _))
  k_with "setItem ref int" => ((k_here; k_dflt (refine' intd_set (by k_asm) (by k_asm) (by k_updF) (by assumption) (by first | assumption | exact Nat.le_of_ble_eq_true rfl) (by assumption) ?_); intro _ _ _ N9 D9; (try dsimp only at N9)); revert N9 D9; intro _ _)
  k_with "binaryOp BitXor int int" => ((k_here; k_dflt (refine' xor_to (by assumption) ?_)))
  k_with "binaryOp LShift int int" => ((k_here; k_dflt (refine' shl_to (by omega) (by omega) (by assumption) ?_)))
  k_with "subscriptTail Name Name ref int" => ((k_here; (with_reducible show wpAny _ _ (subscriptTail _ _ (Value.ref _) (Value.int _ _)) _ _ _); k_dflt (refine' itemL (by k_asm) (by k_mem) (by omega) (by omega) (by assumption) ?_)))
  k_with "subscriptTail Name Name ref int" => ((k_here; (with_reducible show wpAny _ _ (subscriptTail _ _ (Value.ref _) (Value.int _ _)) _ _ _); k_dflt (refine' intd_item (by k_asm) (by k_mem) (by assumption) (by assumption) ?_); intro _))
  k_with "compareOp NotIn int ref" => ((k_here; k_dflt (refine' intd_notin (by k_asm) (by k_mem) (by assumption) (by assumption) (by assumption) ?_)))
  k_with "ite" => ((k_here; k_openite; k_spoken; first | (refine ite_neg (by first | omega | (simp only [decide_eq_true_eq, beq_iff_eq]; omega)) ?_) | (refine ite_pos (by first | omega | (simp only [decide_eq_true_eq, beq_iff_eq]; omega)) ?_)))
  trivial
section
/-- a dict of ints to ints as it lies -/
def IntD (w : World) (o : Obj) (ps : List (Int × Int)) : Prop := ∃ kvs, o.IsDictOf (intKind prg w) kvs ∧ All2 (fun (kv : Int × Value) (p : Int × Int) => kv.1 = p.1 ∧ ∃ t, kv.2 = .int p.2 t) kvs ps
def look (ps : List (Int × Int)) (k : Int) : Option Int := (ps.find? fun p => p.1 = k).map (·.2)
def put (ps : List (Int × Int)) (k v : Int) : List (Int × Int) := if ps.any (fun p => p.1 = k) then ps.map (fun p => if p.1 = k then (p.1, v) else p) else ps ++ [(k, v)]
theorem intd_look {kvs : List (Int × Value)} {ps : List (Int × Int)} {k : Int} (h : All2 (fun (kv : Int × Value) (p : Int × Int) => kv.1 = p.1 ∧ ∃ t, kv.2 = .int p.2 t) kvs ps) :
    (valueAt kvs k = none ∧ look ps k = none) ∨ ∃ v t, valueAt kvs k = some (.int v t) ∧ look ps k = some v := by
  induction h with
  | nil => exact .inl ⟨rfl, rfl⟩
  | cons h r ih =>
    rename_i kv p _ _
    obtain ⟨e, t, e2⟩ := h
    by_cases hk : kv.1 = k
    · exact .inr ⟨p.2, t, by simp [valueAt, hk, e2], by simp [look, ← e, hk]⟩
    · have hk' : ¬ p.1 = k := by rw [← e]; exact hk
      simp only [valueAt, look, List.find?_cons, decide_eq_false hk, decide_eq_false hk'] at ih ⊢
      exact ih
theorem intd_put {kvs : List (Int × Value)} {ps : List (Int × Int)} {k v : Int} {t : Tok} (h : All2 (fun (kv : Int × Value) (p : Int × Int) => kv.1 = p.1 ∧ ∃ t, kv.2 = .int p.2 t) kvs ps) :
    All2 (fun (kv : Int × Value) (p : Int × Int) => kv.1 = p.1 ∧ ∃ t, kv.2 = .int p.2 t) (stored kvs k (.int v t)) (put ps k v) := by
  have hany : kvs.any (fun kv => kv.1 = k) = ps.any (fun p => p.1 = k) := by
    induction h with
    | nil => rfl
    | cons h r ih => rw [List.any_cons, List.any_cons, ih, h.1]
  unfold stored put
  rw [hany]
  split
  · rename_i hq
    clear hany hq
    induction h with
    | nil => exact .nil
    | cons h r ih =>
      rename_i kv p _ _
      refine .cons ?_ ih
      dsimp only
      by_cases hk : kv.1 = k
      · rw [if_pos hk, if_pos (by rw [← h.1]; exact hk)]; exact ⟨h.1, t, rfl⟩
      · rw [if_neg hk, if_neg (by rw [← h.1]; exact hk)]; exact h
  · exact h.snoc ⟨rfl, t, rfl⟩
theorem owned_tupiter {prog : Program} {w : World} {A : Around} {E : Value → Shared → Prop} {s : Shared} {elts : List PySem.Expr} {x1} {pos : Pos} {I l T : Addr} {i : Nat} {Q : Unit → Shared → Prop} (hit : s.heap.IsTupleIter I l i) (hQ : Q () s) :
    wpAny (model prog w) A (letOwnedTupleGo (.Tuple elts x1 pos) (.ref I) (.ref T)) Q E s := by
  obtain ⟨o, ho, hc, hd⟩ := hit
  unfold letOwnedTupleGo
  refine wpAny_bind (wpAny_load ho ?_)
  rw [hc, hd]
  show wpAny _ A (if (["enumerate", "zip", "dict_itemiterator", "dict_reverseitemiterator", "odict_iterator", "itertools.zip_longest", "itertools.pairwise"].contains "tuple_iterator" &&
      (#[.ref l, .int i 0] : Array Value)[0]? == some (rawInt T)) = true then _ else _) Q E s
  rw [if_neg (by
    intro h
    rw [show (["enumerate", "zip", "dict_itemiterator", "dict_reverseitemiterator", "odict_iterator", "itertools.zip_longest", "itertools.pairwise"].contains "tuple_iterator") = false from by decide, Bool.false_and] at h
    cases h)]
  exact wpAny_pure hQ
section
variable {prog : Program} {w : World} {A : Around} {h₀ : Heap} {L : Addr} {m : Str → Option Value} {s s₁ : Shared} {env : Env} {news : Led}
/-- a for over a tuple with a tuple of names -/
theorem for_tupT {E : Value → Shared → Prop} {Q : Flow → Shared → Prop} {elts : List PySem.Expr} {kk : Nat} {px pos : Pos} {iter : PySem.Expr} {body : List Stmt} (hh : A.handled = none)
    (h : wpAny (model prog w) A (eval iter env) (fun xv s₁ => Hold (ShV5P4V1P4 (fun a vs k m news => xv = .ref a) (fun a vs k m news => (a, tupOf vs k) ∈ news) (fun a vs k m news => Fr h₀ env.locals s₁.heap m) (fun a vs k m news => News h₀ env.locals s₁.heap news) (fun a vs k m news (J : Nat → (Str → Option Value) → Led → Prop) => (∀ i m nx, J i m nx → (a, tupOf vs k) ∈ nx)) (fun a vs k m news (J : Nat → (Str → Option Value) → Led → Prop) => J 0 m news) (fun a vs k m news (J : Nat → (Str → Option Value) → Led → Prop) => (∀ i v m₁ nx I oI h tk (E' : Value → Shared → Prop), vs[i]? = some v → J i m₁ nx → Fr h₀ env.locals h m₁ → News h₀ env.locals h ((I, oI) :: nx) → (∀ p ∈ nx, p.1 ≠ I) →
        wpAny (model prog w) A (assign (.Tuple elts kk px) env v) (fun _ s' => wpAny (model prog w) A (execs body env) (TurnEnd h₀ env.locals I oI (J (i + 1)) { s₁ with heap := h, toks := tk } Q) E' s') E' { s₁ with heap := h, toks := tk })) (fun a vs k m news (J : Nat → (Str → Option Value) → Led → Prop) => ∀ h' tk m' nx, Fr h₀ env.locals h' m' → News h₀ env.locals h' nx → J vs.length m' nx → Q .next { s₁ with heap := h', toks := tk }))) E s)
    (hs : ∀ x, foldedSetIterable iter env x = pure x := by intro _; rfl) :
    wpAny (model prog w) A (exec (.For (.Tuple elts kk px) iter body [] pos) env) Q E s := by
  refine wpAny_For (wpAny_mono h (fun xv s₁ h₁ => ?_) fun _ _ e => e) hs
  obtain ⟨a, vs, k, m, news, rfl, hm, F, N, J, hJS, h0, turn, hR⟩ := h₁
  have hl : s₁.heap.IsTuple a vs.toArray := News.isTup N hm
  have hlt : a < s₁.heap.objs.size := Heap.lt_size (N _ hm).1
  refine wpAny_pyIter_tuple hl ?_
  have W := Walks.tuple (prog := prog) (w := w) hh s₁.heap.objs.size a (Nat.ne_of_lt hlt) vs.toArray
  have hsz : vs.toArray.size = vs.length := by simp
  rw [hsz] at W
  have e : (fun (i : Nat) (v : Value) => vs.toArray[i]? = some v) = fun i v => vs[i]? = some v := by funext i v; simp
  rw [e] at W
  refine for_core (S := fun nw => (a, tupOf vs k) ∈ nw) (I := s₁.heap.objs.size) ⟨W, fun i h st => by obtain ⟨o, e, _⟩ := st.1; exact ⟨o, e⟩, ?_⟩ ?_ (Nat.ne_of_lt F.ns.lt) (next_is_new F) (fun p hp => Nat.ne_of_lt (Heap.lt_size (N p hp).1)) ⟨⟨_, Heap.get?_push_size _ rfl, rfl, rfl⟩, IsTup.push hl _⟩ (F.push _) (N.grown fun _ _ e => Heap.get?_push_of_some _ e) J hJS h0 ?_ ?_
  · intro i h h' o nw st e e' _ N' S
    exact ⟨by obtain ⟨o', q, r⟩ := st.1; rw [e] at q; cases q; exact ⟨o, e', r⟩, News.isTup N' S⟩
  · intro i s' v Q' E' st hq
    cases v with
    | ref T => exact owned_tupiter st.1 hq
    | _ => exact wpAny_pure hq
  · intro i v m₁ nx oI h tk E' hi hP hJ F₁ N₁ off₁
    refine wpAny_mono (turn i v m₁ nx _ oI h tk E' hP hJ F₁ N₁ off₁) (fun _ s₂ q => wpAny_mono q (fun f s₃ q => ?_) fun _ _ e => e) fun _ _ e => e
    cases f <;> exact q
  · intro h' tk m' nx F' N' hJ
    exact hR h' tk m' nx F' N' hJ
end
section
variable {w : World} {A : Around} {E : Value → Shared → Prop} {s : Shared} {h₀ : Heap} {L d : Addr} {m : Str → Option Value} {news : Led} {o : Obj} {ps : List (Int × Int)}
theorem intd_get2 {Q : Value → Shared → Prop} {k dv v : Int} {tk td : Tok} (N : News h₀ L s.heap news) (hp : (d, o) ∈ news) (hd : IntD w o ps) (lo : (d == sysModules) = false) (hl : (look ps k).getD dv = v) (h : ∀ t, Q (.int v t) { s with toks := s.toks + 1 }) :
    wpAny (model prg w) A (call (.builtin "dict.get") [.ref d, .int k tk, .int dv td]) Q E s := by
  obtain ⟨kvs, hd, ha⟩ := hd
  refine kdg_get2 N hp hd lo (intKind_is _ _ k tk) _ rfl ?_
  rcases intd_look (k := k) ha with ⟨e1, e2⟩ | ⟨v', t, e1, e2⟩
  · rw [e1]
    rw [e2] at hl
    subst hl
    exact h _
  · rw [e1]
    rw [e2] at hl
    subst hl
    exact h _
theorem intd_item {value slice : PySem.Expr} {Q : Value → Shared → Prop} {k v : Int} {tk : Tok} (N : News h₀ L s.heap news) (hp : (d, o) ∈ news) (hd : IntD w o ps) (hl : look ps k = some v) (h : ∀ t, Q (.int v t) { s with toks := s.toks + 1 })
    (hs : subscripted slice false (.ref d) (.int k tk) = operate [.ref d, .int k tk] (getItem (.ref d) (.int k tk)) := by with_unfolding_all rfl) (hg : ∀ r, letTemporaryGo value (.ref d) r = pure () := by intro _; with_unfolding_all rfl) :
    wpAny (model prg w) A (subscriptTail value slice (.ref d) (.int k tk)) Q E s := by
  obtain ⟨kvs, hd, ha⟩ := hd
  rcases intd_look (k := k) ha with ⟨e1, e2⟩ | ⟨v', t, e1, e2⟩
  · rw [e2] at hl; cases hl
  · rw [e2] at hl
    cases hl
    exact kda_item N hp hd (intKind_is _ _ k tk) e1 (h t) hs hg
theorem intd_some {ps : List (Int × Int)} {kvs : List (Int × Value)} {k : Int} (ha : All2 (fun (kv : Int × Value) (p : Int × Int) => kv.1 = p.1 ∧ ∃ t, kv.2 = .int p.2 t) kvs ps) : (valueAt kvs k).isSome = (look ps k).isSome := by
  rcases intd_look (k := k) ha with ⟨e1, e2⟩ | ⟨v', t, e1, e2⟩ <;> rw [e1, e2] <;> rfl
theorem intd_notin {Q : Value → Shared → Prop} {k : Int} {tk : Tok} {b : Bool} (N : News h₀ L s.heap news) (hp : (d, o) ∈ news) (hd : IntD w o ps) (lo : (d == sysModules) = false) (hl : (look ps k).isSome = b) (h : Q (.bool (!b)) { s with toks := s.toks + 1 }) :
    wpAny (model prg w) A (compareOp .NotIn (.int k tk) (.ref d)) Q E s := by
  obtain ⟨kvs, hd, ha⟩ := hd
  exact kdg_notin N hp hd lo (intKind_is _ _ k tk) b (by rw [intd_some ha, hl]) h
theorem intd_len {Q : Value → Shared → Prop} (N : News h₀ L s.heap news) (hp : (d, o) ∈ news) (hd : IntD w o ps) (lo : (d == sysModules) = false) (hz : ps.length ≤ 1000) {z : Int} (he : (ps.length : Int) = z) (h : ∀ t, Q (.int z t) { s with toks := s.toks + 1 + 1 }) :
    wpAny (model prg w) A (call (.builtin "len") [.ref d]) Q E s := by
  obtain ⟨kvs, hd, ha⟩ := hd
  have hl := All2.length ha
  refine kda_len N hp hd lo (by omega) ?_
  rw [hl, he]
  exact h _
theorem intd_set {Q : Unit → Shared → Prop} {g : Obj → Led} {k v : Int} {tk tv : Tok} (F : Fr h₀ L s.heap m) (N : News h₀ L s.heap news) (U : UpdF d o news g) (hd : IntD w o ps) (hz : ps.length ≤ 1000) {ps' : List (Int × Int)} (hp' : put ps k v = ps')
    (h : ∀ h' o', Fr h₀ L h' m → News h₀ L h' (g o') → IntD w o' ps' → Q () { s with heap := h', toks := s.toks + 1 }) : wpAny (model prg w) A (setItem (.ref d) (.int k tk) (.int v tv)) Q E s := by
  obtain ⟨kvs, hd, ha⟩ := hd
  have hl := All2.length ha
  subst hp'
  refine kda_set F N U hd (intKind_is _ _ k tk) (by rw [sizeLine_eq]; omega) fun h' o' F' N' hd' => h h' o' F' N' ⟨_, hd', intd_put ha⟩
theorem intd_mget {pl : Sem Bool} {Q : Value × List Value → Shared → Prop} (N : News h₀ L s.heap news) (hp : (d, o) ∈ news) (hd : IntD w o ps) (h : Q (.builtin "dict.get", [.ref d]) s) :
    wpAny (model prg w) A (getMethod (.ref d) (Str.ofString "get") pl) Q E s := by
  obtain ⟨kvs, hd, ha⟩ := hd
  exact kdg_method N hp hd h
theorem intd_mkeys {pl : Sem Bool} {Q : Value × List Value → Shared → Prop} (N : News h₀ L s.heap news) (hp : (d, o) ∈ news) (hd : IntD w o ps) (h : Q (.builtin "dict.keys", [.ref d]) s) :
    wpAny (model prg w) A (getMethod (.ref d) (Str.ofString "keys") pl) Q E s := by
  obtain ⟨kvs, hd, ha⟩ := hd
  exact kdl_method PySem.F.slot_dict_keys PySem.F.type_dict_keys N hp hd h
theorem intd_keys {Q : Value → Shared → Prop} (F : Fr h₀ L s.heap m) (N : News h₀ L s.heap news) (hp : (d, o) ∈ news) (hd : IntD w o ps) (lo : (d == sysModules) = false)
    (h : ∀ (D : Addr) h', Fr h₀ L h' m → News h₀ L h' ((D, { cls := .type "dict_keys", data := .fields #[.ref d] }) :: news) → (∀ q ∈ news, @LT.lt Nat _ q.1 D) → Q (.ref D) { s with heap := h' }) :
    wpAny (model prg w) A (call (.builtin "dict.keys") [.ref d]) Q E s := by
  obtain ⟨kvs, hd, ha⟩ := hd
  exact kdl_view_keys F N hp hd lo h
theorem intd_sorted {Q : Value → Shared → Prop} {v : Addr} (hh : A.handled = none) (F : Fr h₀ L s.heap m) (N : News h₀ L s.heap news) (hv : (v, { cls := .type "dict_keys", data := .fields #[.ref d] }) ∈ news) (hp : (d, o) ∈ news) (hd : IntD w o ps) (hz : ps.length ≤ 60) {q : List Int} (hne : ps.length ≠ 0) (hq : (ps.map (·.1)).isPerm q && lks_asc q)
    (h : ∀ D vs c h' tk, Fr h₀ L h' m → News h₀ L h' ((D, listOf (List.toArray vs) c) :: news) → IntsAre vs q → (∀ p ∈ news, @LT.lt Nat _ p.1 D) → Q (.ref D) { s with heap := h', toks := tk }) :
    wpAny (model prg w) A (call (.builtin "sorted") [.ref v]) Q E s := by
  obtain ⟨kvs, hd, ha⟩ := hd
  have hlen := All2.length ha
  have hat := kda_dict N hp hd
  obtain ⟨ep, hat⟩ := hat.dictAt
  refine kdu_sorted (kdl_keys (knd := PySem.intKind prg w) (kvs := kvs) (ep := ep)) hh F N ⟨⟨_, (N _ hv).1, rfl, rfl⟩, hat⟩ (by rw [sizeLine_eq]; omega) fun B h' tk vs F' N' l1 hl hvs => ?_
  have hI : IntsAre vs (ps.map (·.1)) := by
    have key : ∀ (vs : List Value) (kvs : List (Int × Value)) (ps : List (Int × Int)), All2 (fun (kv : Int × Value) (p : Int × Int) => kv.1 = p.1 ∧ ∃ t, kv.2 = .int p.2 t) kvs ps → vs.length = kvs.length →
        (∀ (j : Nat) (v : Value), vs[j]? = some v → ∃ k x, kvs[j]? = some (k, x) ∧ (PySem.intKind prg w).is k v = true) → IntsAre vs (ps.map (·.1)) := by
      intro vs kvs ps ha
      induction ha generalizing vs with
      | nil => intro hl _; rw [List.eq_nil_of_length_eq_zero hl]; exact .nil
      | cons hx r ih =>
        rename_i kv p kvs' ps'
        intro hl hv
        cases vs with
        | nil => cases hl
        | cons v vs =>
          obtain ⟨k, x, e1, e2⟩ := hv 0 v rfl
          have e3 : kv = (k, x) := by simpa using e1
          subst e3
          have e4 : ∃ t, v = .int k t := by
            simp only [intKind] at e2
            cases v <;> simp [Value.isInt] at e2
            exact ⟨_, by rw [e2]⟩
          obtain ⟨t, rfl⟩ := e4
          rw [List.map_cons, ← hx.1]
          exact .cons _ _ (ih vs (by simpa using hl) fun j v hj => by obtain ⟨k', x', a1, a2⟩ := hv (j + 1) v (by simpa using hj); exact ⟨k', x', by simpa using a1, a2⟩)
    exact key vs kvs ps ha hl hvs
  have hz' : vs.length < 64 := by omega
  have hne' : vs ≠ [] := by intro e; rw [e] at hl; simp at hl; omega
  have e0 : kf_ints vs = true := by
    have : ∀ {vs : List Value} {ns : List Int}, IntsAre vs ns → kf_ints vs = true := by
      intro vs ns h
      induction h with
      | nil => rfl
      | cons a u r ih => exact ih
    exact this hI
  have e1 : lks_nums vs = ps.map (·.1) := by
    have : ∀ {vs : List Value} {ns : List Int}, IntsAre vs ns → lks_nums vs = ns := by
      intro vs ns h
      induction h with
      | nil => rfl
      | cons a u r ih => show a :: lks_nums _ = _; rw [ih]
    exact this hI
  refine lks_sort (q := q) (n := 0) (its := vs.toArray) (news' := fun t => (B, listOf (lks_vals q 0 t).toArray 2) :: news) F' N' (fun t => Upd.head fun p hp => Nat.ne_of_lt (l1 p hp)) (by simpa using e0) (by rw [List.toList_toArray]; unfold lks_ok; rw [e1]; exact hq) (by rw [List.toList_toArray]; cases vs with | nil => exact absurd rfl hne' | cons _ _ => rfl) (by rw [List.toList_toArray]; exact hz') fun t h'' F'' N'' => h B _ 2 h'' _ F'' N'' ?_ l1
  have : ∀ (q : List Int) (i : Nat), IntsAre (lks_vals q i t) q := by
    intro q
    induction q with
    | nil => intro i; exact .nil
    | cons a r ih => intro i; exact .cons _ _ (ih (i + 1))
  exact this q 0
end
theorem xor_to {prog : Program} {w : World} {A : Around} {E : Value → Shared → Prop} {s : Shared} {Q : Value → Shared → Prop} {a b c : Int} {t u : Tok} (e : Builtin.bitXor a b = c) (h : Q (.int c s.toks) { s with toks := s.toks + 1 }) : wpAny (model prog w) A (binaryOp .BitXor (.int a t) (.int b u)) Q E s := by subst e; exact xor_int h
theorem shl_to {prog : Program} {w : World} {A : Around} {E : Value → Shared → Prop} {s : Shared} {Q : Value → Shared → Prop} {n c : Int} {t u : Tok} (h0 : 0 ≤ n) (h1 : n ≤ 1000) (e : 1 * 2 ^ n.toNat = c) (h : Q (.int c s.toks) { s with toks := s.toks + 1 }) : wpAny (model prog w) A (binaryOp .LShift (.int 1 t) (.int n u)) Q E s := by subst e; exact lshift_int_small h0 (by omega) (by decide) h
def hAt : Nat → Int
  | 2 => 1
  | 3 => 2
  | _ => 0
def kAt : Nat → List (Int × Int)
  | 0 => []
  | 1 => [(0, 0)]
  | 2 => [(0, 0), (1, 1)]
  | _ => [(0, 0), (1, 1), (2, 2)]
def turnsAt : Nat → List (Int × Int)
  | 0 => [(0, 0)]
  | 1 => [(0, 0), (97, 1), (98, 1)]
  | _ => [(0, 0), (97, 1), (98, 3), (99, 2)]
/-- a set of one sign as it lies -/
def OneL (w : World) (l : Led) (v : Value) (c : Nat) : Prop := ShV7P5 (fun x dx sp p t0 t1 t2 => v = .ref x) (fun x dx sp p t0 t1 t2 => (x, instObj 589 dx) ∈ l) (fun x dx sp p t0 t1 t2 => (dx, dictOf [att w "spans" t0 (.ref sp)] 1) ∈ l) (fun x dx sp p t0 t1 t2 => (sp, tupOf [.ref p] 0) ∈ l) (fun x dx sp p t0 t1 t2 => (p, tupOf [.int c t1, .int c t2] 0) ∈ l)
/-- the classes as they lie -/
def ClsL (w : World) (l : Led) (v : Value) : Prop := ShV12P7 (fun x dx lb ln bvs nvs cb cn t1 t2 t3 t4 => v = .ref x) (fun x dx lb ln bvs nvs cb cn t1 t2 t3 t4 => (x, instObj 665 dx) ∈ l) (fun x dx lb ln bvs nvs cb cn t1 t2 t3 t4 => (dx, dictOf [att w "bounds" t1 (.ref lb), att w "numbers" t2 (.ref ln), att w "count" t3 (.int 3 t4)] 3) ∈ l) (fun x dx lb ln bvs nvs cb cn t1 t2 t3 t4 => (lb, listOf (List.toArray bvs) cb) ∈ l) (fun x dx lb ln bvs nvs cb cn t1 t2 t3 t4 => IntsAre bvs [0, 97, 98, 99]) (fun x dx lb ln bvs nvs cb cn t1 t2 t3 t4 => (ln, listOf (List.toArray nvs) cn) ∈ l) (fun x dx lb ln bvs nvs cb cn t1 t2 t3 t4 => IntsAre nvs [0, 1, 2, 0])
theorem ClsL.mono {w : World} {l l' : Led} {v : Value} (hs : ∀ p ∈ l, p ∈ l') (h : ClsL w l v) : ClsL w l' v := by
  obtain ⟨x, dx, lb, ln, bvs, nvs, cb, cn, t1, t2, t3, t4, e, h1, h2, h3, h4, h5, h6⟩ := h
  exact ⟨x, dx, lb, ln, bvs, nvs, cb, cn, t1, t2, t3, t4, e, hs _ h1, hs _ h2, hs _ h3, h4, hs _ h5, h6⟩
theorem classes_init {w : World} {dp un : Nat} {gd : Option (List Code)} {cn : Str} {cs : Scope} {a : Addr} {ccd : Value} {cl : List (Str × Addr)} {outer : List Env} {A₀ : Around} {base h₀ : Heap} {L : Addr} {m mg mb : Str → Option Value} {mean : ExcName → Option Value} {tP : Program} {tL : List Str}
    {news : List (Addr × Obj)} {s : Shared} {R : Result → Shared → Prop} {la x dx : Addr} {va vb : Value} {nl : Nat}
    (B : Below A₀ base outer h₀) (F : Fr h₀ L s.heap m) (X : (hd.heap_1 w.params).In h₀) (N : News h₀ L s.heap ((x, instObj 665 dx) :: (dx, dictOf [] 0) :: news)) (T : Top tP tL mean mg mb h₀) (hk : cs.kind = .function)
    (hdp : dp + 150 < recursionLimit) (hun : un + 300 < cLine) (hl : (la, listOf (List.toArray [va, vb]) nl) ∈ news) (Ha : OneL w news va 97) (Hb : OneL w news vb 98) (off : ∀ p ∈ news, @LT.lt Nat _ p.1 dx) (hxd : @LT.lt Nat _ dx x)
    (ret : ∀ h' tks tl, Fr h₀ L h' m → News h₀ L h' (tl ++ news) → ClsL w tl (.ref x) → R (.ok (.ret .none)) { s with heap := h', toks := tks }) :
    codeAny (model prg w) (ktrTop dp un gd cn cs L a ccd cl outer) (.call (.ref 607) ⟨[.ref x, .ref la], []⟩) R s := by
  obtain ⟨kd, nm, b1, b2, mo⟩ := cs
  cases hk
  obtain ⟨xa, dxa, spa, pa, ta0, ta1, ta2, rfl, ma1, ma2, ma3, ma4⟩ := Ha
  obtain ⟨xb, dxb, spb, pb, tb0, tb1, tb2, rfl, mb1, mb2, mb3, mb4⟩ := Hb
  k_dflt (refine' code_def (env := envX cn ⟨.function, nm, b1, b2, mo⟩ L a ccd cl) (outer := outer) B F X N T ?kA ?kF rfl ?k6 ?k7 ?k8 ?k9 ?kB ?_ ?c2 ?c3 ?c4 ?c5; (case kA => exact rfl); (case kF => exact rfl); (case k6 => k_is); (case k7 => k_is); (case k8 => k_room); (case k9 => exact BindsTo.of_eq (binds := [(Str.ofString "self", .ref x), (Str.ofString "sets", .ref la)]) rfl); (case c5 => decide); (case kB => exact locs rfl); (case c2 => exact rfl); (case c3 => exact rfl); (case c4 => exact rfl); k_whole)
  intro g' L' h' FG' F' N' B' X' T'
  with_reducible refine no_raise ?_
  change wpAny _ (ktrTop (dp + 1) (un + 3) gd _ _ _ _ _ [] (envX cn ⟨.function, nm, b1, b2, mo⟩ L a ccd cl :: outer)) _ _ _ _
  try dsimp only
  k_fold
  clear N
  wtm_at "k:go"
  rename_i hM1 o1 lo1 hd1 hf1 ap1 ld ld' hM2 FM NM
  obtain ⟨d, hdd⟩ : ∃ d : Addr, d = h'.objs.size := ⟨_, rfl⟩
  rw [← hdd] at lo1 ap1 ld ld' NM FM
  have D1 : IntD w o1 [(0, 0)] := ⟨_, hd1, .cons ⟨rfl, _, rfl⟩ .nil⟩
  clear hd1 hf1
  have offdx : ∀ p ∈ news, p.1 ≠ dx := fun p hp => Nat.ne_of_lt (off p hp)
  have n1 : @Ne Nat x dx := Nat.ne_of_gt hxd
  have n2 : @Ne Nat d dx := Nat.ne_of_gt ld'.2.1
  have n3 : @Ne Nat d x := Nat.ne_of_gt ld'.1
  have offd : ∀ p ∈ (x, instObj 665 dx) :: (dx, dictOf [] 0) :: news, p.1 ≠ d := ap1
  k_dflt (refine wpAny_joinF (fun f h' => ShP1V2P5 (f = .next) (fun m' o => Fr g' L' h' m') (fun m' o => News g' L' h' ((d, o) :: (x, instObj 665 dx) :: (dx, dictOf [] 0) :: news)) (fun m' o => m' (Str.ofString "turns") = some (.ref d)) (fun m' o => m' (Str.ofString "self") = some (.ref x)) (fun m' o => IntD w o (turnsAt 2))) ?fo ?rest)
  case fo =>
    k_dflt (refine for_src (h₀ := g') (by rfl) (by rfl) ?_)
    wtm_at "k:go"
    rename_i h3 tk3 t31 t32 t33 hr3 F3 N3 keep3
    first | delta Hold | ((try k_unmd); k_unfold; delta Hold) | (show Hold _; delta Hold)
    refine ⟨2, _, _, _, _, Src.range (n := 2) rfl hr3 (by decide) (by rfl), F3, N3, fun i m nx => ShV1P5 (fun o => nx = (d, o) :: (x, instObj 665 dx) :: (dx, dictOf [] 0) :: news) (fun o => m (Str.ofString "turns") = some (.ref d)) (fun o => m (Str.ofString "self") = some (.ref x)) (fun o => m (Str.ofString "sets") = some (.ref la)) (fun o => IntD w o (turnsAt i)), fun _ _ _ _ => trivial, ?j0, ?turn, ?fin⟩
    case j0 => exact ⟨o1, rfl, rfl, rfl, rfl, D1⟩
    case fin =>
      intro h22 tk22 m₂ nx F22 N22 hJ
      obtain ⟨o, rfl, hmt, hms, hml, Do⟩ := hJ
      exact ⟨_, _, rfl, (by first | exact rfl | exact True.intro), m₂, o, F22, N22, hmt, hms, Do⟩
    case turn =>
      intro i v m₁ nx I0 oI h tk E' hi hP hJ F4 N4 off4
      obtain ⟨o, rfl, hmt, hms, hml, Do⟩ := hJ
      obtain ⟨te, rfl⟩ := hP
      change Fr g' L' h _ at F4
      change News g' L' h _ at N4
      obtain ⟨pl, hpl⟩ : ∃ pl : Int, pl = 0 + (i : Int) := ⟨_, rfl⟩
      rw [← hpl] at F4
      have z1 : @Ne Nat d I0 := off4 (d, o) (by wtm_at "k:mem")
      have z2 : @Ne Nat x I0 := off4 (x, instObj 665 dx) (by wtm_at "k:mem")
      have z3 : @Ne Nat dx I0 := off4 (dx, dictOf [] 0) (by wtm_at "k:mem")
      have z4 : ∀ p ∈ news, p.1 ≠ I0 := fun p hp => off4 p (List.mem_cons_of_mem _ (List.mem_cons_of_mem _ (List.mem_cons_of_mem _ hp)))
      clear N3
      have key : ShV15P16 (fun (v : Value) (c : Int) (k : Int) (a1 : Int) (a2 : Int) (x1 : Int) (x2 : Int) (ps1 : List (Int × Int)) (sv : Addr) (dv : Addr) (spv : Addr) (pv : Addr) (u0 : Tok) (u1 : Tok) (u2 : Tok) => [Value.ref xa, Value.ref xb][pl.toNat]? = some (.ref sv)) (fun (v : Value) (c : Int) (k : Int) (a1 : Int) (a2 : Int) (x1 : Int) (x2 : Int) (ps1 : List (Int × Int)) (sv : Addr) (dv : Addr) (spv : Addr) (pv : Addr) (u0 : Tok) (u1 : Tok) (u2 : Tok) => (sv, instObj 589 dv) ∈ news) (fun (v : Value) (c : Int) (k : Int) (a1 : Int) (a2 : Int) (x1 : Int) (x2 : Int) (ps1 : List (Int × Int)) (sv : Addr) (dv : Addr) (spv : Addr) (pv : Addr) (u0 : Tok) (u1 : Tok) (u2 : Tok) => (dv, dictOf [att w "spans" u0 (.ref spv)] 1) ∈ news) (fun (v : Value) (c : Int) (k : Int) (a1 : Int) (a2 : Int) (x1 : Int) (x2 : Int) (ps1 : List (Int × Int)) (sv : Addr) (dv : Addr) (spv : Addr) (pv : Addr) (u0 : Tok) (u1 : Tok) (u2 : Tok) => (spv, tupOf [.ref pv] 0) ∈ news) (fun (v : Value) (c : Int) (k : Int) (a1 : Int) (a2 : Int) (x1 : Int) (x2 : Int) (ps1 : List (Int × Int)) (sv : Addr) (dv : Addr) (spv : Addr) (pv : Addr) (u0 : Tok) (u1 : Tok) (u2 : Tok) => (pv, tupOf [.int c u1, .int c u2] 0) ∈ news) (fun (v : Value) (c : Int) (k : Int) (a1 : Int) (a2 : Int) (x1 : Int) (x2 : Int) (ps1 : List (Int × Int)) (sv : Addr) (dv : Addr) (spv : Addr) (pv : Addr) (u0 : Tok) (u1 : Tok) (u2 : Tok) => 1 * 2 ^ pl.toNat = k) (fun (v : Value) (c : Int) (k : Int) (a1 : Int) (a2 : Int) (x1 : Int) (x2 : Int) (ps1 : List (Int × Int)) (sv : Addr) (dv : Addr) (spv : Addr) (pv : Addr) (u0 : Tok) (u1 : Tok) (u2 : Tok) => (look (turnsAt i) c).getD 0 = a1) (fun (v : Value) (c : Int) (k : Int) (a1 : Int) (a2 : Int) (x1 : Int) (x2 : Int) (ps1 : List (Int × Int)) (sv : Addr) (dv : Addr) (spv : Addr) (pv : Addr) (u0 : Tok) (u1 : Tok) (u2 : Tok) => Builtin.bitXor a1 k = x1) (fun (v : Value) (c : Int) (k : Int) (a1 : Int) (a2 : Int) (x1 : Int) (x2 : Int) (ps1 : List (Int × Int)) (sv : Addr) (dv : Addr) (spv : Addr) (pv : Addr) (u0 : Tok) (u1 : Tok) (u2 : Tok) => put (turnsAt i) c x1 = ps1) (fun (v : Value) (c : Int) (k : Int) (a1 : Int) (a2 : Int) (x1 : Int) (x2 : Int) (ps1 : List (Int × Int)) (sv : Addr) (dv : Addr) (spv : Addr) (pv : Addr) (u0 : Tok) (u1 : Tok) (u2 : Tok) => (look ps1 (c + 1)).getD 0 = a2) (fun (v : Value) (c : Int) (k : Int) (a1 : Int) (a2 : Int) (x1 : Int) (x2 : Int) (ps1 : List (Int × Int)) (sv : Addr) (dv : Addr) (spv : Addr) (pv : Addr) (u0 : Tok) (u1 : Tok) (u2 : Tok) => Builtin.bitXor a2 k = x2) (fun (v : Value) (c : Int) (k : Int) (a1 : Int) (a2 : Int) (x1 : Int) (x2 : Int) (ps1 : List (Int × Int)) (sv : Addr) (dv : Addr) (spv : Addr) (pv : Addr) (u0 : Tok) (u1 : Tok) (u2 : Tok) => put ps1 (c + 1) x2 = turnsAt (i + 1)) (fun (v : Value) (c : Int) (k : Int) (a1 : Int) (a2 : Int) (x1 : Int) (x2 : Int) (ps1 : List (Int × Int)) (sv : Addr) (dv : Addr) (spv : Addr) (pv : Addr) (u0 : Tok) (u1 : Tok) (u2 : Tok) => 0 ≤ c) (fun (v : Value) (c : Int) (k : Int) (a1 : Int) (a2 : Int) (x1 : Int) (x2 : Int) (ps1 : List (Int × Int)) (sv : Addr) (dv : Addr) (spv : Addr) (pv : Addr) (u0 : Tok) (u1 : Tok) (u2 : Tok) => c < 100) (fun (v : Value) (c : Int) (k : Int) (a1 : Int) (a2 : Int) (x1 : Int) (x2 : Int) (ps1 : List (Int × Int)) (sv : Addr) (dv : Addr) (spv : Addr) (pv : Addr) (u0 : Tok) (u1 : Tok) (u2 : Tok) => (turnsAt i).length ≤ 1000) (fun (v : Value) (c : Int) (k : Int) (a1 : Int) (a2 : Int) (x1 : Int) (x2 : Int) (ps1 : List (Int × Int)) (sv : Addr) (dv : Addr) (spv : Addr) (pv : Addr) (u0 : Tok) (u1 : Tok) (u2 : Tok) => ps1.length ≤ 1000) := by
        obtain rfl | rfl : i = 0 ∨ i = 1 := by omega
        · subst hpl
          exact ⟨.none, 97, 1, 0, 0, 1, 1, [(0, 0), (97, 1)], xa, dxa, spa, pa, ta0, ta1, ta2, rfl, ma1, ma2, ma3, ma4, by decide, by decide, by decide, by decide, by decide, by decide, by decide, by decide, by decide, by decide, by decide⟩
        · subst hpl
          exact ⟨.none, 98, 2, 1, 0, 3, 2, [(0, 0), (97, 1), (98, 3)], xb, dxb, spb, pb, tb0, tb1, tb2, rfl, mb1, mb2, mb3, mb4, by decide, by decide, by decide, by decide, by decide, by decide, by decide, by decide, by decide, by decide, by decide⟩
      obtain ⟨_, c, k, a1, a2, x1, x2, ps1, sv, dv, spv, pv, u0, u1, u2, y1, y2, y3, y4, y5, y6, y7, y8, y9, y10, y11, y12, y13, y14, y15, y16⟩ := key
      obtain ⟨psi, hpsi⟩ : ∃ psi, psi = turnsAt i := ⟨_, rfl⟩
      obtain ⟨psj, hpsj⟩ : ∃ psj, psj = turnsAt (i + 1) := ⟨_, rfl⟩
      rw [← hpsi] at y7 y9 y15 Do
      rw [← hpsj] at y12
      have hp0 : 0 ≤ pl := by omega
      have hp1 : pl < 2 := by omega
      wtm_at "k:go"
      k_dflt (refine for_tupT (h₀ := g') rfl ?_)
      wtm_at "k:go"
      first | delta Hold | ((try k_unmd); k_unfold; delta Hold) | (show Hold _; delta Hold)
      refine ⟨spv, [.ref pv], _, _, _, rfl, by wtm_at "k:mem", F4, N4, fun j m nx => ShV1P6 (fun o => nx = (I0, oI) :: (d, o) :: (x, instObj 665 dx) :: (dx, dictOf [] 0) :: news) (fun o => m (Str.ofString "turns") = some (.ref d)) (fun o => m (Str.ofString "self") = some (.ref x)) (fun o => m (Str.ofString "sets") = some (.ref la)) (fun o => m (Str.ofString "place") = some (.int pl te)) (fun o => ((j = 0 ∧ IntD w o psi) ∨ (j = 1 ∧ IntD w o psj))), ?src, ?i0, ?iturn, ?ifin⟩
      case src =>
        rintro _ _ _ ⟨o, rfl, _⟩
        wtm_at "k:mem"
      case i0 => exact ⟨o, rfl, hmt, hms, hml, rfl, .inl ⟨rfl, Do⟩⟩
      case ifin =>
        intro h22 tk22 m₂ nx F22 N22 hJ
        obtain ⟨o2, rfl, hmt2, hms2, hml2, hmp2, hJ⟩ := hJ
        replace hJ := hJ.resolve_left (fun q => absurd q.1 (by simp))
        change Fr g' L' h22 _ at F22
        change News g' L' h22 _ at N22
        wtm_at "k:go"
        exact TurnEnd.next F22 N22 ((d, o2) :: (x, instObj 665 dx) :: (dx, dictOf [] 0) :: news) (by wtm_at "k:sub") (List.forall_mem_cons.mpr ⟨z1, List.forall_mem_cons.mpr ⟨z2, List.forall_mem_cons.mpr ⟨z3, z4⟩⟩⟩) ⟨o2, rfl, hmt2, hms2, hml2, hpsj ▸ hJ.2⟩
      case iturn =>
        intro j v m₃ nx I1 oI1 h5 tk5 E5 hv hJ F5 N5 off5
        have hi : j = 0 := by have := (List.getElem?_eq_some_iff.mp hv).1; simp at this; exact this
        subst hi
        obtain ⟨o2, rfl, hmt2, hms2, hml2, hmp2, hJ⟩ := hJ
        replace hJ := (hJ.resolve_right (fun q => absurd q.1 (by decide))).2
        obtain rfl : Value.ref pv = v := by simpa using hv
        change Fr g' L' h5 _ at F5
        change News g' L' h5 _ at N5
        clear N4 Do
        have w1 : @Ne Nat d I1 := off5 (d, o2) (by wtm_at "k:mem")
        have w2 : @Ne Nat x I1 := off5 (x, instObj 665 dx) (by wtm_at "k:mem")
        have w3 : @Ne Nat dx I1 := off5 (dx, dictOf [] 0) (by wtm_at "k:mem")
        have w4 : @Ne Nat I0 I1 := off5 (I0, oI) (by wtm_at "k:mem")
        have w5 : ∀ p ∈ news, p.1 ≠ I1 := fun p hp => off5 p (List.mem_cons_of_mem _ (List.mem_cons_of_mem _ (List.mem_cons_of_mem _ (List.mem_cons_of_mem _ hp))))
        have w6 : ∀ p ∈ news, p.1 ≠ d := fun p hp => offd p (List.mem_cons_of_mem _ (List.mem_cons_of_mem _ hp))
        wtm_at "k:go"
        rename_i hB oB FB NB DB
        exact TurnEnd.next FB NB ((I0, oI) :: (d, oB) :: (x, instObj 665 dx) :: (dx, dictOf [] 0) :: news) (by wtm_at "k:sub") (List.forall_mem_cons.mpr ⟨w4, List.forall_mem_cons.mpr ⟨w1, List.forall_mem_cons.mpr ⟨w2, List.forall_mem_cons.mpr ⟨w3, w5⟩⟩⟩⟩) ⟨oB, rfl, hmt2, hms2, hml2, hmp2, .inr ⟨(by first | exact rfl | exact True.intro), DB⟩⟩
  case rest =>
    rintro _ h4 tk4 ⟨rfl, m', o, F4, N4, hmt, hms, Do⟩
    wtm_at "k:go"
    rename_i lb hb1 hb2 lbs hb3 hb4 ln hn1 hn2 lns hn3 _ kd hk1 ko klo hk2 hk3 hk4 hk5 hk6 kds _ hk7 hk8 FK NK
    obtain ⟨t1, t2, N5⟩ : ∃ t1 t2, News g' L' hk8 ((kd, ko) :: (ln, listOf #[] 0) :: (lb, listOf #[] 0) :: (d, o) :: (x, instObj 665 dx) :: (dx, dictOf [att w "bounds" t1 (.ref lb), att w "numbers" t2 (.ref ln)] 2) :: news) := ⟨_, _, NK⟩
    have DK : IntD w ko [] := ⟨_, hk4, .nil⟩
    have hD2 : turnsAt 2 = [(0, 0), (97, 1), (98, 3), (99, 2)] := rfl
    rw [hD2] at Do
    clear NK hk2 hk3 hk4 hk5 hk6 hb2 hn2
    k_dflt (refine for_src (h₀ := g') (by rfl) (by rfl) ?_)
    wtm_at "k:go"
    rename_i kD vs9 c9 kh kt kF2 kN2 kI kl kls
    have hvl : vs9.length = 4 := by have := IntsAre.length kI; simpa using this
    first | delta Hold | ((try k_unmd); k_unfold; delta Hold) | (show Hold _; delta Hold)
    refine ⟨vs9.length, _, _, _, (kd, ko) :: (ln, listOf (List.toArray []) 0) :: (lb, listOf (List.toArray []) 0) :: (kD, listOf (List.toArray vs9) c9) :: (d, o) :: (x, instObj 665 dx) :: (dx, dictOf [att w "bounds" t1 (.ref lb), att w "numbers" t2 (.ref ln)] 2) :: news, Src.list rfl kN2 (by wtm_at "k:mem"), kF2, News.sub kN2 (by wtm_at "k:sub"), fun i m nx => ShV6P8 (fun ko bvs cb nvs cn' th => nx = (kd, ko) :: (ln, listOf (List.toArray nvs) cn') :: (lb, listOf (List.toArray bvs) cb) :: (kD, listOf (List.toArray vs9) c9) :: (d, o) :: (x, instObj 665 dx) :: (dx, dictOf [att w "bounds" t1 (.ref lb), att w "numbers" t2 (.ref ln)] 2) :: news) (fun ko bvs cb nvs cn' th => m (Str.ofString "turns") = some (.ref d)) (fun ko bvs cb nvs cn' th => m (Str.ofString "self") = some (.ref x)) (fun ko bvs cb nvs cn' th => m (Str.ofString "known") = some (.ref kd)) (fun ko bvs cb nvs cn' th => m (Str.ofString "holders") = some (.int (hAt i) th)) (fun ko bvs cb nvs cn' th => IntD w ko (kAt i)) (fun ko bvs cb nvs cn' th => IntsAre bvs ([0, 97, 98, 99].take i)) (fun ko bvs cb nvs cn' th => IntsAre nvs ([0, 1, 2, 0].take i)), ?ls, ?l0, ?lturn, ?lfin⟩
    case ls =>
      rintro _ _ _ ⟨_, _, _, _, _, _, rfl, _⟩
      wtm_at "k:mem"
    case l0 => exact ⟨ko, [], _, [], _, _, rfl, hmt, hms, rfl, rfl, DK, .nil, .nil⟩
    case lturn =>
      intro i v m₁ nx I0 oI h tk E' hi hP hJ F4 N4 off4
      obtain ⟨ko, bvs, cb, nvs, cn', th, rfl, hmt, hms, hmk, hmh, DK, Ib, In⟩ := hJ
      obtain ⟨c, tc, rfl, hc⟩ := kI.at i v hP
      change Fr g' L' h _ at F4
      change News g' L' h _ at N4
      have hi4 : i < 4 := by omega
      have key : ShV5P12 (fun (t : Int) (h1 : Int) (b : Bool) (lnn : Int) (nv : Int) => look [(0, 0), (97, 1), (98, 3), (99, 2)] c = some t) (fun (t : Int) (h1 : Int) (b : Bool) (lnn : Int) (nv : Int) => Builtin.bitXor (hAt i) t = h1) (fun (t : Int) (h1 : Int) (b : Bool) (lnn : Int) (nv : Int) => hAt (i + 1) = h1) (fun (t : Int) (h1 : Int) (b : Bool) (lnn : Int) (nv : Int) => (look (kAt i) h1).isSome = b) (fun (t : Int) (h1 : Int) (b : Bool) (lnn : Int) (nv : Int) => ((kAt i).length : Int) = lnn) (fun (t : Int) (h1 : Int) (b : Bool) (lnn : Int) (nv : Int) => (b = false → put (kAt i) h1 lnn = kAt (i + 1))) (fun (t : Int) (h1 : Int) (b : Bool) (lnn : Int) (nv : Int) => (b = true → kAt i = kAt (i + 1))) (fun (t : Int) (h1 : Int) (b : Bool) (lnn : Int) (nv : Int) => look (kAt (i + 1)) h1 = some nv) (fun (t : Int) (h1 : Int) (b : Bool) (lnn : Int) (nv : Int) => ([0, 97, 98, 99] : List Int).take (i + 1) = [0, 97, 98, 99].take i ++ [c]) (fun (t : Int) (h1 : Int) (b : Bool) (lnn : Int) (nv : Int) => ([0, 1, 2, 0] : List Int).take (i + 1) = [0, 1, 2, 0].take i ++ [nv]) (fun (t : Int) (h1 : Int) (b : Bool) (lnn : Int) (nv : Int) => (kAt i).length ≤ 1000) (fun (t : Int) (h1 : Int) (b : Bool) (lnn : Int) (nv : Int) => (kAt (i + 1)).length ≤ 1000) := by
        clear F4 N4 DK Ib In off4 hP
        obtain rfl | rfl | rfl | rfl : i = 0 ∨ i = 1 ∨ i = 2 ∨ i = 3 := by omega
        · obtain rfl : (0 : Int) = c := by simpa using hc
          exact ⟨0, 0, false, 0, 0, by decide, by decide, by decide, by decide, by decide, by decide, by decide, by decide, by decide, by decide, by decide, by decide⟩
        · obtain rfl : (97 : Int) = c := by simpa using hc
          exact ⟨1, 1, false, 1, 1, by decide, by decide, by decide, by decide, by decide, by decide, by decide, by decide, by decide, by decide, by decide, by decide⟩
        · obtain rfl : (98 : Int) = c := by simpa using hc
          exact ⟨3, 2, false, 2, 2, by decide, by decide, by decide, by decide, by decide, by decide, by decide, by decide, by decide, by decide, by decide, by decide⟩
        · obtain rfl : (99 : Int) = c := by simpa using hc
          exact ⟨2, 0, true, 3, 0, by decide, by decide, by decide, by decide, by decide, by decide, by decide, by decide, by decide, by decide, by decide, by decide⟩
      obtain ⟨t, h1, b, lnn, nv, y1, y2, y3, y4, y5, y6, y7, y8, y9, y10, y11, y12⟩ := key
      obtain ⟨k1, hk1⟩ : ∃ k1, k1 = kAt i := ⟨_, rfl⟩
      obtain ⟨k2, hk2⟩ : ∃ k2, k2 = kAt (i + 1) := ⟨_, rfl⟩
      obtain ⟨hh, hhh⟩ : ∃ hh, hh = hAt i := ⟨_, rfl⟩
      rw [← hk1] at y4 y5 y6 y7 y11 DK
      rw [← hk2] at y6 y7 y8 y12
      rw [← hhh] at y2 hmh
      have z1 : @Ne Nat kd I0 := off4 (kd, ko) (by wtm_at "k:mem")
      have z2 : @Ne Nat ln I0 := off4 (ln, listOf (List.toArray nvs) cn') (by wtm_at "k:mem")
      have z3 : @Ne Nat lb I0 := off4 (lb, listOf (List.toArray bvs) cb) (by wtm_at "k:mem")
      have z4 : @Ne Nat kD I0 := off4 (kD, listOf (List.toArray vs9) c9) (by wtm_at "k:mem")
      have z5 : @Ne Nat d I0 := off4 (d, o) (by wtm_at "k:mem")
      have z6 : @Ne Nat x I0 := off4 (x, instObj 665 dx) (by wtm_at "k:mem")
      have z7 : @Ne Nat dx I0 := off4 (dx, dictOf [att w "bounds" t1 (.ref lb), att w "numbers" t2 (.ref ln)] 2) (by wtm_at "k:mem")
      have z8 : ∀ p ∈ news, p.1 ≠ I0 := fun p hp => off4 p (by repeat first | exact hp | refine List.mem_cons_of_mem _ ?_)
      have lv1 := IntsAre.length Ib
      have lv2 := IntsAre.length In
      have lv3 : (([0, 97, 98, 99] : List Int).take i).length ≤ 4 := List.length_take_le' ..
      have lv4 : (([0, 1, 2, 0] : List Int).take i).length ≤ 4 := List.length_take_le' ..
      clear N5 kN2 kF2
      cases b with
      | true =>
        have y13 := y7 rfl
        subst y13
        wtm_at "k:go"
        rename_i FX NX _
        k_dflt (refine' append_K (by k_asm) NX ?k3 ?_ ?z)
        case k3 => k_upd
        case z => (simp only [List.size_toArray]; rw [sizeLine_eq]; omega)
        intro hC FC NC
        rw [List.push_toArray] at NC
        wtm_at "k:go"
        k_dflt (refine' append_K (by k_asm) NC ?k3 ?_ ?z)
        case k3 => k_upd
        case z => (simp only [List.size_toArray]; rw [sizeLine_eq]; omega)
        intro hE FE NE
        rw [List.push_toArray] at NE
        wtm_at "k:go"
        exact TurnEnd.next FE NE ((kd, ko) :: (ln, listOf (List.toArray (nvs ++ [.int nv _])) (cn' + 1)) :: (lb, listOf (List.toArray (bvs ++ [.int c tc])) (cb + 1)) :: (kD, listOf (List.toArray vs9) c9) :: (d, o) :: (x, instObj 665 dx) :: (dx, dictOf [att w "bounds" t1 (.ref lb), att w "numbers" t2 (.ref ln)] 2) :: news) (by wtm_at "k:sub") (List.forall_mem_cons.mpr ⟨z1, List.forall_mem_cons.mpr ⟨z2, List.forall_mem_cons.mpr ⟨z3, List.forall_mem_cons.mpr ⟨z4, List.forall_mem_cons.mpr ⟨z5, List.forall_mem_cons.mpr ⟨z6, List.forall_mem_cons.mpr ⟨z7, z8⟩⟩⟩⟩⟩⟩⟩) ⟨ko, _, cb + 1, _, cn' + 1, _, rfl, hmt, hms, hmk, (by rw [y3]; rfl), hk2 ▸ DK, (by rw [y9]; exact IntsAre.append Ib (.cons _ _ .nil)), (by rw [y10]; exact IntsAre.append In (.cons _ _ .nil))⟩
      | false =>
        have y13 := y6 rfl
        wtm_at "k:go"
        rename_i hX oX FX NX DX
        clear DK
        k_dflt (refine' append_K (by k_asm) NX ?k3 ?_ ?z)
        case k3 => k_upd
        case z => (simp only [List.size_toArray]; rw [sizeLine_eq]; omega)
        intro hC FC NC
        rw [List.push_toArray] at NC
        wtm_at "k:go"
        k_dflt (refine' append_K (by k_asm) NC ?k3 ?_ ?z)
        case k3 => k_upd
        case z => (simp only [List.size_toArray]; rw [sizeLine_eq]; omega)
        intro hE FE NE
        rw [List.push_toArray] at NE
        wtm_at "k:go"
        exact TurnEnd.next FE NE ((kd, oX) :: (ln, listOf (List.toArray (nvs ++ [.int nv _])) (cn' + 1)) :: (lb, listOf (List.toArray (bvs ++ [.int c tc])) (cb + 1)) :: (kD, listOf (List.toArray vs9) c9) :: (d, o) :: (x, instObj 665 dx) :: (dx, dictOf [att w "bounds" t1 (.ref lb), att w "numbers" t2 (.ref ln)] 2) :: news) (by wtm_at "k:sub") (List.forall_mem_cons.mpr ⟨z1, List.forall_mem_cons.mpr ⟨z2, List.forall_mem_cons.mpr ⟨z3, List.forall_mem_cons.mpr ⟨z4, List.forall_mem_cons.mpr ⟨z5, List.forall_mem_cons.mpr ⟨z6, List.forall_mem_cons.mpr ⟨z7, z8⟩⟩⟩⟩⟩⟩⟩) ⟨oX, _, cb + 1, _, cn' + 1, _, rfl, hmt, hms, hmk, (by rw [y3]; rfl), hk2 ▸ DX, (by rw [y9]; exact IntsAre.append Ib (.cons _ _ .nil)), (by rw [y10]; exact IntsAre.append In (.cons _ _ .nil))⟩
    case lfin =>
      intro h22 tk22 m₂ nx F22 N22 hJ
      obtain ⟨ko, bvs, cb, nvs, cn', th, rfl, hmt, hms, hmk, hmh, DK, Ib, In⟩ := hJ
      rw [hvl] at DK Ib In
      have y5 : ((kAt 4).length : Int) = 3 := rfl
      have y11 : (kAt 4).length ≤ 1000 := by decide
      clear N5 kN2 kF2
      wtm_at "k:go"
      rename_i kF kN kT kX
      exact ret _ _ ((kd, ko) :: (ln, listOf (List.toArray nvs) cn') :: (lb, listOf (List.toArray bvs) cb) :: (kD, listOf (List.toArray vs9) c9) :: (d, o) :: (x, instObj 665 dx) :: (dx, _) :: []) kF kN ⟨x, dx, lb, ln, bvs, nvs, cb, cn', _, _, _, _, rfl, by wtm_at "k:mem", by wtm_at "k:mem", by wtm_at "k:mem", Ib, by wtm_at "k:mem", In⟩
end
theorem lines14 : True := by
  w_top off
  k_with_none
  k_with "k:k1" => ((first | (k_unfold; (try dsimp only)) | (k_end; wrow_close) | walk1 | (dsimp only; walk1) | (leave1; walk_say "STEP leave1"; try dsimp only) | fail "no step"))
  k_with "k:mem" => (first | exact List.mem_cons_self | ktr_member | (refine List.mem_cons_of_mem _ ?_; wtm_at "k:mem") | (refine List.mem_append_left _ ?_; wtm_at "k:mem") | (refine List.mem_append_right _ ?_; wtm_at "k:mem"))
  k_with "k:sub" => (first | with_reducible exact sub_refl | with_reducible assumption | with_reducible exact sub_nil | (with_reducible refine sub_of_cons ?_ ?_; (focus (wtm_at "k:mem")); wtm_at "k:sub") | (with_reducible refine sub_of_app ?_ ?_; (focus (wtm_at "k:sub")); wtm_at "k:sub") | (with_reducible refine sub_cons ?_; wtm_at "k:sub") | (with_reducible refine sub_appl ?_; wtm_at "k:sub") | (with_reducible refine sub_appr ?_; wtm_at "k:sub"))
  k_with "k:front" => (first | exact Front.head | exact Front.tail (by wtm_at "k:front") | exact Front.app (by wtm_at "k:front"))
  k_with "eval Name" => ((k_here; (fail_if_success (fail_if_success ((with_reducible refine loc_first ?_ ?_); (focus (k_dflt rfl))))); k_dflt (refine' nameX_L (by k_asm) (by first | rfl | assumption) ?_ (by rfl) (by rfl); k_whole)))
  k_with "eval Name" => ((k_here; (with_reducible show wpAny _ _ (eval (Expr.Name _ _) (envX _ _ _ _ _ _)) _ _ _); k_dflt (first
  | (refine' nameX_L (by k_asm) (by first | rfl | assumption) ?_ (by rfl) (by rfl); k_whole)
  | (refine' nameX_F (by k_asm) (by rfl) (by k_mem) (by k_asm) ?_ (by rfl) (by rfl); k_whole)
  | (refine' nameX_C (by k_asm) (by rfl) (by k_mem) (by k_asm) ?_ (by rfl) (by rfl); k_whole)
  | (refine' nameX_K (by k_asm) (by k_asm) (by k_asm) (by k_is) ?_ (by rfl) (by rfl); k_whole)
  | (refine' nameX_B (by k_asm) (by k_asm) (by k_asm) (by k_is) (by boot_fast) (by decide) ?_ (by rfl) (by rfl); k_whole))))
  k_with "k:all" => (first | with_reducible assumption | exact List.forall_mem_nil _ | (with_reducible refine List.forall_mem_cons.mpr ⟨?_, ?_⟩; (focus k_ne); wtm_at "k:all") | (with_reducible refine List.forall_mem_append.mpr ⟨?_, ?_⟩; (focus (wtm_at "k:all")); wtm_at "k:all") | exact Ap.ne (by with_reducible assumption) (by wtm_at "k:mem") | exact lts_ne (by with_reducible assumption) (by omega) | exact gts_ne (by with_reducible assumption) (by omega) | exact lts_sub_ne (by with_reducible assumption) (by wtm_at "k:sub"))
  k_with "callWith ref" => ((k_here; k_dflt (refine' callWith_F (TakeIn.fnAt (by k_asm) (by assumption) (by wtm_at "k:sub")) ?_)))
  k_with "And" => (((with_reducible show FnAt _ _ ∧ _); refine' ⟨TakeIn.fnAt (by k_asm) (by assumption) (by wtm_at "k:sub"), ?_⟩; try dsimp only [List.nil_append, List.cons_append]))
  k_with "call ref" => ((k_here; k_dflt (refine' take_call (by assumption) (by k_asm) (by k_asm) (by k_asm) (by k_asm) (by k_asm) (by wtm_at "k:front") (by wtm_at "k:sub") (by wtm_at "k:all") (by first | assumption | rfl) (by assumption) (by omega) (by omega) (by omega) (by omega) (by omega) (by omega) ?_); intro _ _ _ _ _ _ _ _ _; (try k_sweep)))
  k_with "k:haltX" => ((with_reducible show wpAny _ _ (exec (Stmt.Assign _ (Expr.ListComp _ _ _ _) _) _) _ _ _))
  k_with "k:haltX" => ((with_reducible show wpAny _ _ (exec (Stmt.For _ _ _ _ _) _) _ _ _))
  k_with "k:haltE" => ((with_reducible show wpAny _ _ (eval (Expr.ListComp _ _ _ _) _) _ _ _))
  k_with "k:halt" => (wtm_at "k:haltO")
  k_with "k:halt" => (wtm_at "k:haltE")
  k_with "k:halt" => (wtm_at "k:haltX")
  k_with "k:go" => ((try k_fold); repeat' ((fail_if_success (wtm_at "k:halt")); wtm_at "k:k1"))
  k_with "k:haltO" => ((with_reducible show LCg.CompEnd _ _ _ _ _ _ _ _ _ _ _ _ _ _))
  k_with "k:haltO" => ((with_reducible show TurnEnd _ _ _ _ _ _ _ _ _))
  k_with "call type:tuple" => ((k_here; (with_reducible show wpAny _ _ (call (Value.type _) [Value.ref _]) _ _ _); k_dflt (refine' kde_tupleOf (by k_asm) (by k_asm) (by exact News.isList (by k_asm) (by k_mem)) (by ((have hq9 := IntsAre.length (by assumption)); (simp only [List.size_toArray]); omega)) (by rfl) ?_; k_whole); intro _ _ _ _ l1; (try k_lt l1); (try k_sweep)); (try (revert l1; intro _)))
  k_with "k:haltE" => ((with_reducible show wpAny _ _ (call (Value.builtin "list.append") _) _ _ _))
  k_with "subscriptTail Attribute" => ((k_here; k_dflt (refine kba_turn (value' := PySem.Expr.Name (PySem.Str.ofString "_") ⟨0, 0, 0, 0⟩) (fun _ => rfl) ?_)))
  k_with "subscriptTail Subscript" => ((k_here; k_dflt (refine kba_turn (value' := PySem.Expr.Name (PySem.Str.ofString "_") ⟨0, 0, 0, 0⟩) (fun _ => rfl) ?_)))
  k_with "subscriptTail" => (wtm_at "k:fsub")
  k_with "subscriptTail Name Name ref int" => (wtm_at "k:fsub")
  k_with "subscriptTail Name Name str int" => (wtm_at "k:fsub")
  k_with "subscriptTail Name Name ref str" => (wtm_at "k:fsub")
  k_with "subscriptTail Name Constant ref int" => (wtm_at "k:fsub")
  k_with "subscriptTail Name Constant str int" => (wtm_at "k:fsub")
  k_with "subscriptTail Name Constant ref str" => (wtm_at "k:fsub")
  k_with "subscriptTail Name BinOp ref int" => (wtm_at "k:fsub")
  k_with "subscriptTail Name BinOp str int" => (wtm_at "k:fsub")
  k_with "subscriptTail Name BinOp ref str" => (wtm_at "k:fsub")
  k_with "execs cons" => ((k_here; (with_reducible refine gen_toks ?_); (intro (tk : Nat))))
  k_with "execs nil" => ((k_here; (with_reducible refine gen_toks ?_); (intro (tk : Nat))))
  k_with "k:haltO" => ((with_reducible show Hold _))
  k_with "k:fsub" => ((k_here; (with_reducible show wpAny _ _ (subscriptTail _ _ (Value.ref _) (Value.int _ _)) _ _ _); k_dflt (refine' itemL (by k_asm) (by k_mem) (by omega) (by omega) (by first | assumption | exact rfl) ?_)))
  k_with "ite" => ((k_here; k_openite; k_spoken; first | (refine ite_neg (by first | omega | (simp only [decide_eq_true_eq, beq_iff_eq]; omega)) ?_) | (refine ite_pos (by first | omega | (simp only [decide_eq_true_eq, beq_iff_eq]; omega)) ?_)))
  k_with "call builtin:len" => ((k_here; (with_reducible show wpAny _ _ (call (Value.builtin "len") [Value.ref _]) _ _ _); k_dflt (refine' len_to (by k_asm) (by k_mem) (by decide) (by assumption) ?_); intro _))
  k_with "binaryOp FloorDiv int int" => ((k_here; k_dflt (refine' fdiv_to (by decide) (by decide) (by decide) (by assumption) ?_); intro _))
  k_with "call builtin:ord" => ((k_here; (with_reducible show wpAny _ _ (call (Value.builtin "ord") [Value.str _ _]) _ _ _); refine P.ord_of_char ?_))
  k_with "call ref" => ((k_here; k_dflt (refine' of_call (by k_asm) (by k_asm) (by k_asm) (by k_asm) (by k_asm) (by first | assumption | rfl) (by omega) (by omega) (by assumption) (by wtm_at "k:sub") (by assumption) ?_); intro _ _ _ _ _; (try k_sweep)))
  trivial
section
theorem len_to {w : World} {A : Around} {s : Shared} {h₀ : Heap} {L : Addr} {E Q : Value → Shared → Prop} {l : Addr} {vs : List Value} {n : Nat} {news : Led} {z : Int} (N : News h₀ L s.heap news) (hm : (l, listOf (List.toArray vs) n) ∈ news) (hx : vs.length ≤ 1000000) (e : (vs.length : Int) = z) (h : ∀ t, Q (.int z t) { s with toks := s.toks + 1 + 1 }) : wpAny (model prg w) A (call (.builtin "len") [.ref l]) Q E s := by
  subst e
  exact lenL N hm hx (h _)
theorem fdiv_to {prog : Program} {w : World} {A : Around} {E : Value → Shared → Prop} {s : Shared} {Q : Value → Shared → Prop} {a b c : Int} {t u : Tok} (hb : b ≠ 0) (h1 : 0 ≤ b) (h2 : b < 1000) (e : a.fdiv b = c) (h : ∀ t, Q (.int c t) { s with toks := s.toks + 1 }) : wpAny (model prog w) A (binaryOp .FloorDiv (.int a t) (.int b u)) Q E s := by
  subst e
  exact floordiv_int hb (h _) (Or.inl (PyProof.noPylong_small (by omega)))
theorem of_spec {w : World} {dp un : Nat} {gd : Option (List Code)} {cn : Str} {cs : Scope} {a : Addr} {ccd : Value} {cl : List (Str × Addr)} {outer : List Env} {A₀ : Around} {base h₀ : Heap} {L : Addr} {m mg mb : Str → Option Value} {mean : ExcName → Option Value} {tP : Program} {tL : List Str}
    {news : List (Addr × Obj)} {s : Shared} {R : Result → Shared → Prop} {x : Addr} {c : Nat} {t : Tok}
    (B : Below A₀ base outer h₀) (F : Fr h₀ L s.heap m) (X : (hd.heap_1 w.params).In h₀) (N : News h₀ L s.heap news) (T : Top tP tL mean mg mb h₀) (hk : cs.kind = .function)
    (hdp : dp + 100 < recursionLimit) (hun : un + 300 < cLine) (I : ClsL w news (.ref x)) (hc : Abn c)
    (ret : ∀ t h' tks, Fr h₀ L h' m → News h₀ L h' news → R (.ok (.ret (.int (numOf c) t))) { s with heap := h', toks := tks }) :
    codeAny (model prg w) (ktrTop dp un gd cn cs L a ccd cl outer) (.call (.ref 624) ⟨[.ref x, .int c t], []⟩) R s := by
  obtain ⟨kd, nm, b1, b2, mo⟩ := cs
  cases hk
  obtain ⟨x', dx, lb, ln, bvs, nvs, cb, cn', t1, t2, t3, t4, e, i1, i2, i3, i4, i5, i6⟩ := I
  cases e
  k_dflt (refine' code_def (env := envX cn ⟨.function, nm, b1, b2, mo⟩ L a ccd cl) (outer := outer) B F X N T ?kA ?kF rfl ?k6 ?k7 ?k8 ?k9 ?kB ?_ ?c2 ?c3 ?c4 ?c5; (case kA => exact rfl); (case kF => exact rfl); (case k6 => k_is); (case k7 => k_is); (case k8 => k_room); (case k9 => exact BindsTo.of_eq (binds := [(Str.ofString "self", .ref x), (Str.ofString "code", .int c t)]) rfl); (case c5 => decide); (case kB => exact locs rfl); (case c2 => exact rfl); (case c3 => exact rfl); (case c4 => exact rfl); k_whole)
  intro g' L' h' FG' F' N' B' X' T'
  with_reducible refine no_raise ?_
  change wpAny _ (ktrTop (dp + 1) (un + 3) gd _ _ _ _ _ [] (envX cn ⟨.function, nm, b1, b2, mo⟩ L a ccd cl :: outer)) _ _ _ _
  try dsimp only
  k_fold
  clear N
  rcases i4 with _ | ⟨v0, u0, _ | ⟨v1, u1, _ | ⟨v2, u2, _ | ⟨v3, u3, _ | _⟩⟩⟩⟩
  rcases i6 with _ | ⟨w0, x0, _ | ⟨w1, x1, _ | ⟨w2, x2, _ | ⟨w3, x3, _ | _⟩⟩⟩⟩
  rcases hc with rfl | rfl | rfl
  all_goals have f0 : ((([.int 0 u0, .int 97 u1, .int 98 u2, .int 99 u3] : List Value).length : Nat) : Int) = 4 := rfl
  all_goals have f1 : Int.fdiv (0 + 4) 2 = 2 := by decide
  · have f2 : Int.fdiv (0 + 2) 2 = 1 := by decide
    wtm_at "k:go"
    rename_i kF kN kT kX
    exact ret _ _ _ kF (News.sub kN (by wtm_at "k:sub"))
  · have f2 : Int.fdiv (2 + 4) 2 = 3 := by decide
    wtm_at "k:go"
    rename_i kF kN kT kX
    exact ret _ _ _ kF (News.sub kN (by wtm_at "k:sub"))
  · have f2 : Int.fdiv (0 + 2) 2 = 1 := by decide
    wtm_at "k:go"
    rename_i kF kN kT kX
    exact ret _ _ _ kF (News.sub kN (by wtm_at "k:sub"))
theorem of_call {w : World} {dp un : Nat} {gd : Option (List Code)} {cn : Str} {cs : Scope} {a : Addr} {ccd : Value} {cl : List (Str × Addr)} {outer : List Env} {A₀ : Around} {base h₀ : Heap} {L : Addr} {m mg mb : Str → Option Value} {mean : ExcName → Option Value} {tP : Program} {tL : List Str}
    {news : List (Addr × Obj)} {s : Shared} {Q E : Value → Shared → Prop} {x : Addr} {c : Nat} {t : Tok} {bs : Led}
    (B : Below A₀ base outer h₀) (F : Fr h₀ L s.heap m) (X : (hd.heap_1 w.params).In h₀) (N : News h₀ L s.heap news) (T : Top tP tL mean mg mb h₀) (hk : cs.kind = .function)
    (hdp : dp + 100 < recursionLimit) (hun : un + 300 < cLine) (I : ClsL w bs (.ref x)) (hb : ∀ p ∈ bs, p ∈ news) (hc : Abn c)
    (ret : ∀ t h' tks, Fr h₀ L h' m → News h₀ L h' news → Q (.int (numOf c) t) { s with heap := h', toks := tks }) :
    wpAny (model prg w) (ktrTop dp un gd cn cs L a ccd cl outer) (call (.ref 624) [.ref x, .int c t]) Q E s := wpAny_call (of_spec B F X N T hk hdp hun (I.mono hb) hc ret)
theorem word_spec {w : World} {dp un : Nat} {gd : Option (List Code)} {cn : Str} {cs : Scope} {a : Addr} {ccd : Value} {cl : List (Str × Addr)} {outer : List Env} {A₀ : Around} {base h₀ : Heap} {L : Addr} {m mg mb : Str → Option Value} {mean : ExcName → Option Value} {tP : Program} {tL : List Str}
    {news : List (Addr × Obj)} {s : Shared} {R : Result → Shared → Prop} {x : Addr} {tx : Str} {t : Tok}
    (B : Below A₀ base outer h₀) (F : Fr h₀ L s.heap m) (X : (hd.heap_1 w.params).In h₀) (N : News h₀ L s.heap news) (T : Top tP tL mean mg mb h₀) (hk : cs.kind = .function)
    (hdp : dp + 150 < recursionLimit) (hun : un + 400 < cLine) (I : ClsL w news (.ref x)) (hx : ∀ (i c : Nat), tx.cps[i]? = some c → Abn c) (hx6 : tx.cps.size ≤ 6)
    (ret : ∀ nb nvs c h' tks, Fr h₀ L h' m → News h₀ L h' ((nb, listOf (List.toArray nvs) c) :: news) → IntsAre nvs (tx.cps.toList.map numOf) → (∀ p ∈ news, p.1 ≠ nb) → R (.ok (.ret (.ref nb))) { s with heap := h', toks := tks }) :
    codeAny (model prg w) (ktrTop dp un gd cn cs L a ccd cl outer) (.call (.ref 657) ⟨[.ref x, .str tx t], []⟩) R s := by
  obtain ⟨kd, nm, b1, b2, mo⟩ := cs
  cases hk
  have I0 := I
  obtain ⟨x', dx, lb, ln, bvs, nvs, cb, cn', t1, t2, t3, t4, e, i1, i2, i3, i4, i5, i6⟩ := I
  cases e
  k_dflt (refine' code_defC (env := envX cn ⟨.function, nm, b1, b2, mo⟩ L a ccd cl) (outer := outer) B F X N T ?kA ?kF rfl ?k6 ?k7 ?k8 ?k9 ?kB ?kD ?_ ?c2 ?c3 ?c4; (case kA => exact rfl); (case kF => exact rfl); (case k6 => k_is); (case k7 => k_is); (case k8 => k_room); (case k9 => exact BindsTo.of_eq (binds := [(Str.ofString "self", .ref x), (Str.ofString "text", .str tx t)]) rfl); (case kB => exact rfl); (case kD => decide +kernel); (case c2 => exact rfl); (case c3 => exact rfl); (case c4 => exact rfl); k_whole)
  intro g' L' h' tk' cells' FG' F' N' Y' B' X' T' l1
  with_reducible refine no_raise ?_
  obtain ⟨o1, hE', d1⟩ := CellsAre.one Y'
  subst hE'; clear Y'
  simp only [List.cons_append, List.nil_append] at N'
  replace d1 : o1.data = .cell (some (.ref x)) := d1
  k_lt l1
  change wpAny _ (ktrTop (dp + 1) (un + 3) gd _ _ _ _ _ _ (envX cn ⟨.function, nm, b1, b2, mo⟩ L a ccd cl :: outer)) _ _ _ _
  try dsimp only
  k_fold
  clear N
  wtm_at "k:go"
  k_dflt (refine comp_U (h₀ := g') (L := L') (by with_unfolding_all rfl) (by decide) (by rfl) (by decide) (by rfl) ?_)
  wtm_at "k:go"
  first | delta Hold | ((try k_unmd); k_unfold; delta Hold) | (show Hold _; delta Hold)
  refine ⟨tx.cps.size, _, _, _, _, Src.str rfl, by rw [sizeLine_eq]; omega, F', N', fun i ys nx => nx = (L' + 1, o1) :: news ∧ IntsAre ys ((tx.cps.toList.take i).map numOf), fun _ _ _ _ => trivial, ?j0, ?turn, ?fin⟩
  case j0 => exact ⟨rfl, .nil⟩
  case turn =>
    intro i v ys nx I0 oI C0 oC D0 m₂ h tk E' hi hP hJ hC hx F4 N4 off4 ne4
    obtain ⟨rfl, hys⟩ := hJ
    obtain ⟨c, u, hcc, rfl⟩ := hP
    have hcn : Abn c := by first | exact ‹∀ (i c : Nat), tx.cps[i]? = some c → Abn c› _ _ hcc
    clear F' N'
    wtm_at "k:go"
    rename_i FX NX
    refine CompEnd.intro FX NX ((L' + 1, o1) :: news) (by wtm_at "k:sub") off4 trivial ⟨rfl, ?_⟩
    have ht : tx.cps.toList.take (i + 1) = tx.cps.toList.take i ++ [c] := by
      rw [List.take_add_one, Array.getElem?_toList, hcc]; rfl
    rw [ht, List.map_append]
    exact IntsAre.append hys (.cons _ _ .nil)
  case fin =>
    intro ys nx D h9 tk9 hJ F9 N9 o19
    obtain ⟨rfl, hys⟩ := hJ
    clear F' N'
    wtm_at "k:go"
    rename_i kF kN kT kX
    have o20 := Off1.all o19
    rw [List.take_of_length_le (by show tx.cps.size ≤ _; exact Nat.le_refl _)] at hys
    exact ret D ys _ _ _ kF (News.sub kN (by wtm_at "k:sub")) hys (fun p hp => o20 p (List.mem_cons_of_mem _ hp))
end
theorem lines15 : True := by
  w_top off
  k_with_none
  k_with "k:k1" => ((first | (k_unfold; (try dsimp only)) | (k_end; wrow_close) | walk1 | (dsimp only; walk1) | (leave1; walk_say "STEP leave1"; try dsimp only) | fail "no step"))
  k_with "k:mem" => (first | exact List.mem_cons_self | ktr_member | (refine List.mem_cons_of_mem _ ?_; wtm_at "k:mem") | (refine List.mem_append_left _ ?_; wtm_at "k:mem") | (refine List.mem_append_right _ ?_; wtm_at "k:mem"))
  k_with "k:sub" => (first | with_reducible exact sub_refl | with_reducible assumption | with_reducible exact sub_nil | (with_reducible refine sub_of_cons ?_ ?_; (focus (wtm_at "k:mem")); wtm_at "k:sub") | (with_reducible refine sub_of_app ?_ ?_; (focus (wtm_at "k:sub")); wtm_at "k:sub") | (with_reducible refine sub_cons ?_; wtm_at "k:sub") | (with_reducible refine sub_appl ?_; wtm_at "k:sub") | (with_reducible refine sub_appr ?_; wtm_at "k:sub"))
  k_with "k:front" => (first | exact Front.head | exact Front.tail (by wtm_at "k:front") | exact Front.app (by wtm_at "k:front"))
  k_with "eval Name" => ((k_here; (fail_if_success (fail_if_success ((with_reducible refine loc_first ?_ ?_); (focus (k_dflt rfl))))); k_dflt (refine' nameX_L (by k_asm) (by first | rfl | assumption) ?_ (by rfl) (by rfl); k_whole)))
  k_with "eval Name" => ((k_here; (with_reducible show wpAny _ _ (eval (Expr.Name _ _) (envX _ _ _ _ _ _)) _ _ _); k_dflt (first
  | (refine' nameX_L (by k_asm) (by first | rfl | assumption) ?_ (by rfl) (by rfl); k_whole)
  | (refine' nameX_F (by k_asm) (by rfl) (by k_mem) (by k_asm) ?_ (by rfl) (by rfl); k_whole)
  | (refine' nameX_C (by k_asm) (by rfl) (by k_mem) (by k_asm) ?_ (by rfl) (by rfl); k_whole)
  | (refine' nameX_K (by k_asm) (by k_asm) (by k_asm) (by k_is) ?_ (by rfl) (by rfl); k_whole)
  | (refine' nameX_B (by k_asm) (by k_asm) (by k_asm) (by k_is) (by boot_fast) (by decide) ?_ (by rfl) (by rfl); k_whole))))
  k_with "k:all" => (first | with_reducible assumption | exact List.forall_mem_nil _ | (with_reducible refine List.forall_mem_cons.mpr ⟨?_, ?_⟩; (focus k_ne); wtm_at "k:all") | (with_reducible refine List.forall_mem_append.mpr ⟨?_, ?_⟩; (focus (wtm_at "k:all")); wtm_at "k:all") | exact Ap.ne (by with_reducible assumption) (by wtm_at "k:mem") | exact lts_ne (by with_reducible assumption) (by omega) | exact gts_ne (by with_reducible assumption) (by omega) | exact lts_sub_ne (by with_reducible assumption) (by wtm_at "k:sub"))
  k_with "callWith ref" => ((k_here; k_dflt (refine' callWith_F (TakeIn.fnAt (by k_asm) (by assumption) (by wtm_at "k:sub")) ?_)))
  k_with "And" => (((with_reducible show FnAt _ _ ∧ _); refine' ⟨TakeIn.fnAt (by k_asm) (by assumption) (by wtm_at "k:sub"), ?_⟩; try dsimp only [List.nil_append, List.cons_append]))
  k_with "call ref" => ((k_here; k_dflt (refine' take_call (by assumption) (by k_asm) (by k_asm) (by k_asm) (by k_asm) (by k_asm) (by wtm_at "k:front") (by wtm_at "k:sub") (by wtm_at "k:all") (by first | assumption | rfl) (by assumption) (by omega) (by omega) (by omega) (by omega) (by omega) (by omega) ?_); intro _ _ _ _ _ _ _ _ _; (try k_sweep)))
  k_with "k:haltX" => ((with_reducible show wpAny _ _ (exec (Stmt.Assign _ (Expr.ListComp _ _ _ _) _) _) _ _ _))
  k_with "k:haltX" => ((with_reducible show wpAny _ _ (exec (Stmt.For _ _ _ _ _) _) _ _ _))
  k_with "k:haltE" => ((with_reducible show wpAny _ _ (eval (Expr.ListComp _ _ _ _) _) _ _ _))
  k_with "k:halt" => (wtm_at "k:haltO")
  k_with "k:halt" => (wtm_at "k:haltE")
  k_with "k:halt" => (wtm_at "k:haltX")
  k_with "k:go" => ((try k_fold); repeat' ((fail_if_success (wtm_at "k:halt")); wtm_at "k:k1"))
  k_with "k:haltO" => ((with_reducible show LCg.CompEnd _ _ _ _ _ _ _ _ _ _ _ _ _ _))
  k_with "k:haltO" => ((with_reducible show TurnEnd _ _ _ _ _ _ _ _ _))
  k_with "call type:tuple" => ((k_here; (with_reducible show wpAny _ _ (call (Value.type _) [Value.ref _]) _ _ _); k_dflt (refine' kde_tupleOf (by k_asm) (by k_asm) (by exact News.isList (by k_asm) (by k_mem)) (by ((have hq9 := IntsAre.length (by assumption)); (simp only [List.size_toArray]); omega)) (by rfl) ?_; k_whole); intro _ _ _ _ l1; (try k_lt l1); (try k_sweep)); (try (revert l1; intro _)))
  k_with "k:haltE" => ((with_reducible show wpAny _ _ (call (Value.builtin "list.append") _) _ _ _))
  k_with "subscriptTail Attribute" => ((k_here; k_dflt (refine kba_turn (value' := PySem.Expr.Name (PySem.Str.ofString "_") ⟨0, 0, 0, 0⟩) (fun _ => rfl) ?_)))
  k_with "subscriptTail Subscript" => ((k_here; k_dflt (refine kba_turn (value' := PySem.Expr.Name (PySem.Str.ofString "_") ⟨0, 0, 0, 0⟩) (fun _ => rfl) ?_)))
  k_with "subscriptTail" => (wtm_at "k:fsub")
  k_with "subscriptTail Name Name ref int" => (wtm_at "k:fsub")
  k_with "subscriptTail Name Name str int" => (wtm_at "k:fsub")
  k_with "subscriptTail Name Name ref str" => (wtm_at "k:fsub")
  k_with "subscriptTail Name Constant ref int" => (wtm_at "k:fsub")
  k_with "subscriptTail Name Constant str int" => (wtm_at "k:fsub")
  k_with "subscriptTail Name Constant ref str" => (wtm_at "k:fsub")
  k_with "subscriptTail Name BinOp ref int" => (wtm_at "k:fsub")
  k_with "subscriptTail Name BinOp str int" => (wtm_at "k:fsub")
  k_with "subscriptTail Name BinOp ref str" => (wtm_at "k:fsub")
  k_with "execs cons" => ((k_here; (with_reducible refine gen_toks ?_); (intro (tk : Nat))))
  k_with "execs nil" => ((k_here; (with_reducible refine gen_toks ?_); (intro (tk : Nat))))
  k_with "k:haltO" => ((with_reducible show Hold _))
  k_with "k:haltX" => ((with_reducible show wpAny _ _ (exec (Stmt.Assign _ (Expr.Call (Expr.Attribute _ _ _) _ _ _) _) _) _ _ _))
  k_with "call ref" => ((k_here; k_dflt (refine' begins_call (by k_asm) (by k_asm) (by k_asm) (by k_asm) (by k_asm) (by first | assumption | rfl) (by omega) (by omega) (by assumption) (by assumption) (by omega) (by omega) (by assumption) ?_); intro _ _ _ _ _; (try k_sweep)))
  k_with "call ref" => ((k_here; k_dflt (refine wpAny_call ?_; refine' endings_spec (by k_asm) (by k_asm) (by k_asm) (by k_asm) (by k_asm) (by first | assumption | rfl) (by omega) (by omega) (by assumption) (by wtm_at "k:sub") (by assumption) (by k_mem) (by assumption) (by assumption) (by omega) (by omega) ?_); intro _ _ _ _ _ _ _ _; (try k_sweep)))
  k_with "call ref" => ((k_here; k_dflt (refine' cutlen_call (by k_asm) (by k_asm) (by k_asm) (by k_asm) (by k_asm) (by first | assumption | rfl) (by omega) (by omega) (by (refine TabL.mono ?_ (by assumption); wtm_at "k:sub")) (by (refine MadeL.mono ?_ (by assumption); wtm_at "k:sub")) (by k_mem) (by omega) (by assumption) ?_); intro _ _ _ _ _; (try k_sweep)))
  k_with "k:fsub" => ((k_here; (with_reducible show wpAny _ _ (subscriptTail _ _ (Value.ref _) (Value.int _ _)) _ _ _); k_dflt (refine kda_item (knd := PySem.intKind _ _) (by k_asm) (by k_mem) (by k_asm) (intKind_is _ _ _ _) (by assumption) ?_)))
  k_with "subscriptTail Name Slice ref ref" => ((k_here; (with_reducible show wpAny _ _ (subscriptTail _ (PySem.Expr.Slice _ _ none _) (Value.ref _) (Value.ref _)) _ _ _); k_dflt (refine' sliceL (by k_asm) (by k_asm) (by k_mem) (by omega) (by omega) (by omega) (by omega) ?_); intro _ _ _ _ _ _ l1; (try k_lt l1); (try k_sweep)); (try (revert l1; intro _)))
  trivial
section
theorem endsGo_in {rows tags : List (List Int)} (H : AutoOk rows tags) : ∀ (ns : List Int) (st e : Int) (f : List (Int × List Int)), ∀ p ∈ endsGo rows tags ns st e f, p ∈ f ∨ (e < p.1 ∧ p.1 ≤ e + ns.length ∧ p.2.length ≤ 4)
  | [], st, e, f => fun p hp => .inl hp
  | n :: ns, st, e, f => fun p hp => by
    rw [endsGo] at hp
    split at hp
    · exact .inl hp
    · rcases endsGo_in H ns _ _ _ p hp with h | ⟨h1, h2, h3⟩
      · split at h
        · exact .inl h
        · rcases List.mem_append.mp h with h | h
          · exact .inl h
          · rw [List.mem_singleton.mp h]
            refine .inr ⟨by simp only; omega, by simp only [List.length_cons]; omega, ?_⟩
            show (tags.getD _ []).length ≤ 4
            by_cases hi : (nxt rows st n).toNat < tags.length
            · rw [getD_of (List.getElem?_eq_getElem hi)]
              exact H.tags4 _ (List.getElem_mem hi)
            · rw [List.getD_eq_getElem?_getD, List.getElem?_eq_none (by omega)]
              decide
      · refine .inr ⟨by omega, by simp only [List.length_cons]; omega, h3⟩
theorem endsGo_len {rows tags : List (List Int)} : ∀ (ns : List Int) (st e : Int) (f : List (Int × List Int)), (endsGo rows tags ns st e f).length ≤ f.length + ns.length
  | [], st, e, f => by simp [endsGo]
  | n :: ns, st, e, f => by
    rw [endsGo]
    split
    · simp
    · refine Nat.le_trans (endsGo_len ns _ _ _) ?_
      split <;> simp <;> omega
theorem endsOf_in {rows tags : List (List Int)} (H : AutoOk rows tags) {at_ : Nat} {ns : List Int} (hat : at_ ≤ ns.length) : ∀ p ∈ endsOf rows tags at_ ns, (at_ : Int) < p.1 ∧ p.1 ≤ ns.length ∧ p.2.length ≤ 4 := fun p hp => by
  rcases endsGo_in H _ _ _ _ p (List.mem_reverse.mp hp) with h | ⟨h1, h2, h3⟩
  · cases h
  · rw [List.length_drop] at h2
    exact ⟨h1, by omega, h3⟩
theorem endsOf_len {rows tags : List (List Int)} {at_ : Nat} {ns : List Int} : (endsOf rows tags at_ ns).length ≤ ns.length := by
  unfold endsOf
  rw [List.length_reverse]
  refine Nat.le_trans (endsGo_len _ _ _ _) ?_
  simp
theorem rowOf_app {cts : List (Int × Bool × Int)} {at_ len : Int} {a b : List Int} : rowOf cts at_ (a ++ b) len = rowOf cts at_ a len ++ rowOf cts at_ b len := by
  unfold rowOf
  rw [List.filter_append, List.map_append]
theorem candAll_snoc {cts : List (Int × Bool × Int)} {at_ : Int} {es : List (Int × List Int)} {i : Nat} {p : Int × List Int} (h : es[i]? = some p) : candAll cts at_ (es.take (i + 1)) = candAll cts at_ (es.take i) ++ candRow cts at_ p := by
  unfold candAll
  rw [List.take_add_one, h, List.flatMap_append]
  simp
theorem cand_first {cts : List (Int × Bool × Int)} {at_ e k : Int} {es : List (Int × List Int)} {i j : Nat} {ts : List Int} (he : es[i]? = some (e, ts)) (h0 : candAll cts at_ (es.take i) = []) (hk : ts[j]? = some k) (h1 : rowOf cts at_ (ts.take j) (e - at_) = []) (hp : 0 < bodyOf cts k (e - at_)) :
    (candAll cts at_ es).take 1 = [(at_ + bodyOf cts k (e - at_), k)] := by
  have e1 : es = es.take (i + 1) ++ es.drop (i + 1) := (List.take_append_drop _ _).symm
  have e2 : ts = ts.take j ++ (k :: ts.drop (j + 1)) := by
    have hj : j < ts.length := (List.getElem?_eq_some_iff.mp hk).1
    have hq : k = ts[j] := ((List.getElem?_eq_some_iff.mp hk).2).symm
    rw [hq, ← List.drop_eq_getElem_cons hj, List.take_append_drop]
  have e3 : candRow cts at_ (e, ts) = (at_ + bodyOf cts k (e - at_), k) :: rowOf cts at_ (ts.drop (j + 1)) (e - at_) := by
    unfold candRow
    show rowOf cts at_ ts (e - at_) = _
    rw [e2, rowOf_app, ← e2, h1, List.nil_append]
    unfold rowOf
    rw [List.filter_cons, if_pos (by simpa using hp)]
    rfl
  rw [e1]
  unfold candAll at h0 ⊢
  rw [List.flatMap_append, ← candAll, candAll_snoc he, candAll, h0, e3]
  rfl
theorem sliceL {prog : Program} {w : World} {A : Around} {E : Value → Shared → Prop} {s : Shared} {h₀ : Heap} {L : Addr} {m : Str → Option Value} {value slice : PySem.Expr} {Q : Value → Shared → Prop} {news : Led} {l : Addr} {vs : List Value} {n ta tb : Nat} {a b : Int}
    (F : Fr h₀ L s.heap m) (N : News h₀ L s.heap news) (hm : (l, listOf (List.toArray vs) n) ∈ news) (h0 : 0 ≤ a) (hab : a ≤ b) (hb : b ≤ vs.length) (hz : vs.length ≤ 1000)
    (h : ∀ zs D h', ((zs.length : Nat) : Int) = b - a → Fr h₀ L h' m → News h₀ L h' ((D, listOf (List.toArray zs) 0) :: news) → (∀ p ∈ news, @LT.lt Nat _ p.1 D) → Q (.ref D) { s with heap := h' })
    (hs : subscripted slice false (.ref l) (.ref s.heap.objs.size) = operate [.ref s.heap.objs.size, .ref l] (getItem (.ref l) (.ref s.heap.objs.size)) := by with_unfolding_all rfl) (ht : ∀ r, letTemporaryGo value (.ref l) r = pure () := by intro _; with_unfolding_all rfl) :
    wpAny (model prog w) A (subscriptTail value slice (.ref l) (.ref s.heap.objs.size)) Q E { s with heap := s.heap.push { cls := .type "slice", data := .fields #[.int a ta, .int b tb, .none] } } := by
  refine kms_slice_lit F N (News.isList N hm) (IsPart.int _ _) (IsPart.int _ _) rfl (fun D h' F' N' l1 => h _ D h' ?_ F' N' l1) hs ht (by simp only [List.size_toArray]; rw [sizeLine_eq]; omega)
  unfold kms_pick kms_lo kms_hi
  simp only [List.toList_toArray, List.length_take, List.length_drop]
  rw [if_neg (by omega), if_neg (by omega)]
  omega
theorem begins_call {w : World} {dp un : Nat} {gd : Option (List Code)} {cn : Str} {cs : Scope} {a : Addr} {ccd : Value} {cl : List (Str × Addr)} {outer : List Env} {A₀ : Around} {base h₀ : Heap} {L : Addr} {m mg mb : Str → Option Value} {mean : ExcName → Option Value} {tP : Program} {tL : List Str}
    {news : List (Addr × Obj)} {s : Shared} {Q E : Value → Shared → Prop} {sx tb nb pl tl9 : Addr} {x : Str} {at_ : Nat} {ta : Tok} {bg : Int}
    (B : Below A₀ base outer h₀) (F : Fr h₀ L s.heap m) (X : (hd.heap_1 w.params).In h₀) (N : News h₀ L s.heap news) (T : Top tP tL mean mg mb h₀) (hk : cs.kind = .function)
    (hdp : dp + 100 < recursionLimit) (hun : un + 300 < cLine) (S : ScanL w news sx x tb nb pl tl9) (hx : ∀ (i c : Nat), x.cps[i]? = some c → Abn c) (hx6 : x.cps.size ≤ 6) (hat : at_ ≤ x.cps.size) (hbg : (if beginsOf x at_ = true then 1 else 0) = bg)
    (ret : ∀ t h' tks, Fr h₀ L h' m → News h₀ L h' news → Q (.int bg t) { s with heap := h', toks := tks }) :
    wpAny (model prg w) (ktrTop dp un gd cn cs L a ccd cl outer) (call (.ref 298) [.ref sx, .int at_ ta]) Q E s := by
  subst hbg
  exact wpAny_call (begins_spec B F X N T hk hdp hun S hx hx6 hat ret)
theorem cutlen_call {w : World} {dp un : Nat} {gd : Option (List Code)} {cn : Str} {cs : Scope} {a : Addr} {ccd : Value} {cl : List (Str × Addr)} {outer : List Env} {A₀ : Around} {base h₀ : Heap} {L : Addr} {m mg mb : Str → Option Value} {mean : ExcName → Option Value} {tP : Program} {tL : List Str}
    {news : List (Addr × Obj)} {s : Shared} {Q E : Value → Shared → Prop} {tb nb : Addr} {cv hv : Value} {rej : Bool} {nvs : List Value} {nn : Nat} {cts : List (Int × Bool × Int)} {k bd : Int} {tk : Tok}
    (B : Below A₀ base outer h₀) (F : Fr h₀ L s.heap m) (X : (hd.heap_1 w.params).In h₀) (N : News h₀ L s.heap news) (T : Top tP tL mean mg mb h₀) (hk : cs.kind = .function)
    (hdp : dp + 150 < recursionLimit) (hun : un + 300 < cLine) (I : TabL w news tb cv hv rej) (C : MadeL w news cv cts) (hn : (nb, listOf (List.toArray nvs) nn) ∈ news) (hx6 : nvs.length ≤ 1000) (hbd : bodyOf cts k nvs.length = bd)
    (ret : ∀ t h' tks, Fr h₀ L h' m → News h₀ L h' news → Q (.int bd t) { s with heap := h', toks := tks }) :
    wpAny (model prg w) (ktrTop dp un gd cn cs L a ccd cl outer) (call (.ref 249) [.ref tb, .int k tk, .ref nb]) Q E s := by
  subst hbd
  exact wpAny_call (cutlen_spec B F X N T hk hdp hun I C hn hx6 ret)
theorem cand_spec {w : World} {dp un : Nat} {gd : Option (List Code)} {cn : Str} {cs : Scope} {a : Addr} {ccd : Value} {cl : List (Str × Addr)} {outer : List Env} {A₀ : Around} {base h₀ : Heap} {L : Addr} {m mg mb : Str → Option Value} {mean : ExcName → Option Value} {tP : Program} {tL : List Str}
    {news : List (Addr × Obj)} {s : Shared} {R : Result → Shared → Prop} {sx tb nb pl tl9 : Addr} {x : Str} {cv hv : Value} {rej : Bool} {nvs : List Value} {nn : Nat} {ns : List Int} {cts : List (Int × Bool × Int)} {r0 t0 r1 t1 : List (List Int)} {at_ : Nat} {ta : Tok}
    (B : Below A₀ base outer h₀) (F : Fr h₀ L s.heap m) (X : (hd.heap_1 w.params).In h₀) (N : News h₀ L s.heap news) (T : Top tP tL mean mg mb h₀) (hk : cs.kind = .function)
    (hdp : dp + 300 < recursionLimit) (hun : un + 600 < cLine) (S : ScanL w news sx x tb nb pl tl9) (I : TabL w news tb cv hv rej) (C : MadeL w news cv cts) (V : HeldL w news hv r0 t0 r1 t1) (H0 : AutoOk r0 t0) (H1 : AutoOk r1 t1)
    (hn : (nb, listOf (List.toArray nvs) nn) ∈ news) (hnv : IntsAre nvs ns) (hn3 : ∀ x ∈ ns, 0 ≤ x ∧ x < 3) (hx : ∀ (i c : Nat), x.cps[i]? = some c → Abn c) (hx6 : ns.length ≤ 6) (hxn : x.cps.size = ns.length) (hat : at_ < ns.length)
    (ret : ∀ v tl h' tks, FoundL tl v (candOf rej cts at_ (if beginsOf x at_ then endsOf r1 t1 at_ ns else endsOf r0 t0 at_ ns)) → Fr h₀ L h' m → News h₀ L h' (tl ++ news) → Ap tl (news.map (·.1)) → R (.ok (.ret v)) { s with heap := h', toks := tks }) :
    codeAny (model prg w) (ktrTop dp un gd cn cs L a ccd cl outer) (.call (.ref 404) ⟨[.ref sx, .int at_ ta], []⟩) R s := by
  obtain ⟨kd, nm, b1, b2, mo⟩ := cs
  cases hk
  obtain ⟨dsx, v2, v3, v4, sa, sb1, sc, sd, se, sf, s1, s2, s3, s4, s5, s6, s7, s8, s9, ua, ub, uc, ud, ue, uf, msx, mds⟩ := S
  have I0 := I
  obtain ⟨dtb, w1, w2, w4, w6, w7, w8, q1, q2, q3, q4, q5, q6, q7, q8, q9, mtb, mdt⟩ := I
  obtain ⟨hd', ho, hv0, hv1, rfl, mho, hhd, hlo, D0, D1⟩ := V
  k_dflt (refine' code_def (env := envX cn ⟨.function, nm, b1, b2, mo⟩ L a ccd cl) (outer := outer) B F X N T ?kA ?kF rfl ?k6 ?k7 ?k8 ?k9 ?kB ?_ ?c2 ?c3 ?c4 ?c5; (case kA => exact rfl); (case kF => exact rfl); (case k6 => k_is); (case k7 => k_is); (case k8 => k_room); (case k9 => exact BindsTo.of_eq (binds := [(Str.ofString "self", .ref sx), (Str.ofString "start", .int at_ ta)]) rfl); (case c5 => decide); (case kB => exact locs rfl); (case c2 => exact rfl); (case c3 => exact rfl); (case c4 => exact rfl); k_whole)
  intro g' L' h' FG' F' N' B' X' T'
  with_reducible refine no_raise ?_
  change wpAny _ (ktrTop (dp + 1) (un + 3) gd _ _ _ _ _ [] (envX cn ⟨.function, nm, b1, b2, mo⟩ L a ccd cl :: outer)) _ _ _ _
  try dsimp only
  k_fold
  clear N
  have S0 : ScanL w news sx x tb nb pl tl9 := ⟨dsx, v2, v3, v4, sa, sb1, sc, sd, se, sf, s1, s2, s3, s4, s5, s6, s7, s8, s9, ua, ub, uc, ud, ue, uf, msx, mds⟩
  have hnl := IntsAre.length hnv
  have hnm := (Nat.le_of_lt hat)
  obtain ⟨hv, hhv⟩ : ∃ hv, hv = if beginsOf x at_ then hv1 else hv0 := ⟨_, rfl⟩
  obtain ⟨rows, hrows⟩ : ∃ rows, rows = if beginsOf x at_ then r1 else r0 := ⟨_, rfl⟩
  obtain ⟨tags, htags⟩ : ∃ tags, tags = if beginsOf x at_ then t1 else t0 := ⟨_, rfl⟩
  have DD : DfaL w news hv rows tags := by rw [hhv, hrows, htags]; split <;> assumption
  have HH : AutoOk rows tags := by rw [hrows, htags]; split <;> assumption
  have hes : (if beginsOf x at_ = true then endsOf r1 t1 at_ ns else endsOf r0 t0 at_ ns) = endsOf rows tags at_ ns := by rw [hrows, htags]; split <;> rfl
  rw [hes] at ret
  obtain ⟨bg, hbg⟩ : ∃ bg : Int, (if beginsOf x at_ = true then 1 else 0) = bg := ⟨_, rfl⟩
  have hva : valueAt [((0 : Int), hv0), (1, hv1)] (2 * 0 + bg) = some hv := by rw [← hbg, hhv]; split <;> rfl
  wtm_at "k:go"
  wtm_at "k:k1"
  k_dflt (refine wpAny_joinF (fun v h' => v = hv ∧ Fr g' L' h' (fun y => List.lookup y [(Str.ofString "self", .ref sx), (Str.ofString "start", .int at_ ta)].reverse) ∧ News g' L' h' news) ?au ?on)
  case au =>
    wtm_at "k:go"
    rename_i kF kN _ _
    exact ⟨_, _, rfl, rfl, kF, kN⟩
  case on =>
    rintro _ h6 tk6 ⟨rfl, F6, N6⟩
    wtm_at "k:go"
    rename_i lr hx0 llr llr' hx1 F1 N1
    k_dflt (refine for_listT (h₀ := g') rfl ?_)
    wtm_at "k:go"
    rename_i ev tlE hE0 tksE hEL FE NE apE
    obtain ⟨ea, evs, en, rfl, mea, hall⟩ := hEL
    obtain ⟨es, hes'⟩ : ∃ es, es = endsOf rows tags at_ ns := ⟨_, rfl⟩
    have hin : ∀ p ∈ es, (at_ : Int) < p.1 ∧ p.1 ≤ ns.length ∧ p.2.length ≤ 4 := by rw [hes']; exact endsOf_in HH hnm
    have hel : es.length ≤ ns.length := by rw [hes']; exact endsOf_len
    rw [← hes'] at hall ret
    have lv := All2.length hall
    have aplr : ∀ p ∈ tlE, p.1 ≠ lr := apE.ne (mem_adr (o := listOf (List.toArray []) 0) (by wtm_at "k:mem"))
    have aplr2 : ∀ p ∈ news, p.1 ≠ lr := fun p hp => Nat.ne_of_lt (llr p hp)
    obtain ⟨b, hb⟩ : ∃ b : Led, b = tlE ++ news := ⟨_, rfl⟩
    have sb : ∀ p ∈ news, p ∈ b := by rw [hb]; wtm_at "k:sub"
    have oflr : ∀ p ∈ b, p.1 ≠ lr := by rw [hb]; wtm_at "k:all"
    rw [← hb] at hall mea
    have msx' := sb _ msx
    have mds' := sb _ mds
    have mtb' := sb _ mtb
    have mdt' := sb _ mdt
    have hnb := sb _ hn
    have Ib : TabL w b tb cv (.ref hd') rej := I0.mono sb
    have Cb : MadeL w b cv cts := C.mono sb
    first | delta Hold | ((try k_unmd); k_unfold; delta Hold) | (show Hold _; delta Hold)
    refine ⟨ea, evs, en, _, (lr, listOf (List.toArray []) 0) :: b, rfl, List.mem_cons_of_mem _ mea, FE, by rw [hb]; exact News.sub NE (by wtm_at "k:sub"), fun i m nx => ShV3P8 (fun tl vs c => nx = (lr, listOf (List.toArray vs) c) :: (tl ++ b)) (fun tl vs c => m (Str.ofString "result") = some (.ref lr)) (fun tl vs c => m (Str.ofString "self") = some (.ref sx)) (fun tl vs c => m (Str.ofString "start") = some (.int at_ ta)) (fun tl vs c => All2 (PairV tl) vs (candAll cts at_ (es.take i))) (fun tl vs c => (rej = false → candAll cts at_ (es.take i) = [])) (fun tl vs c => vs.length ≤ 4 * i) (fun tl vs c => Ap tl (lr :: b.map (·.1))), ?src, ?j0, ?turn, ?fin⟩
    case src =>
      rintro _ _ _ ⟨tl, vs, c, rfl, _⟩
      exact List.mem_cons_of_mem _ (List.mem_append_right _ mea)
    case j0 => exact ⟨[], [], 0, rfl, rfl, rfl, rfl, .nil, fun _ => rfl, Nat.le_refl _, Ap.nil⟩
    case fin =>
      intro h22 tk22 m₂ nx F22 N22 hJ
      obtain ⟨tl, vs, c, rfl, hmr, hms, hmt, hvs, hrj, hvl, hap⟩ := hJ
      change Fr g' L' h22 _ at F22
      change News g' L' h22 _ at N22
      rw [List.take_of_length_le (by omega)] at hvs hrj
      clear NE
      wtm_at "k:go"
      rename_i kF kN kT kX
      have hc : candOf rej cts at_ es = candAll cts at_ es := by
        unfold candOf
        split
        · rfl
        · rename_i hr
          rw [hrj (by simpa using hr)]; rfl
      refine ret _ ((lr, listOf (List.toArray vs) c) :: tl) _ _ ⟨lr, vs, c, rfl, List.mem_cons_self, ?_⟩ kF (News.sub kN (by rw [hb]; simp only [List.cons_append]; wtm_at "k:sub")) ((hap.adr fun b' hb' => List.mem_cons_of_mem _ (map_sub sb b' hb')).cons (adr_lt llr (by wtm_at "k:sub")))
      rw [hc]
      exact hvs.mono fun _ _ => PairV.mono (by wtm_at "k:sub")
    case turn =>
      intro i v m₁ nx I0' oI h tk E' hvi hJ F4 N4 off4
      obtain ⟨tl, vs, c, rfl, hmr, hms, hmt, hvs, hrj, hvl, hap⟩ := hJ
      change Fr g' L' h _ at F4
      change News g' L' h _ at N4
      obtain ⟨⟨e, ts⟩, hei, ev, et, etv, en', rfl, hev, ta', tjs, tn, rfl, hta, hti⟩ := hall.getL i v hvi
      have hen := hin (e, ts) (List.mem_of_getElem? hei)
      dsimp only at hen hev hti
      have hil : i < es.length := (List.getElem?_eq_some_iff.mp hei).1
      have z1 : @Ne Nat lr I0' := off4 (lr, listOf (List.toArray vs) c) (by wtm_at "k:mem")
      have w1 : ∀ p ∈ tl, p.1 ≠ I0' := fun p hp => off4 p (List.mem_cons_of_mem _ (List.mem_append_left _ hp))
      have w2 : ∀ p ∈ b, p.1 ≠ I0' := fun p hp => off4 p (List.mem_cons_of_mem _ (List.mem_append_right _ hp))
      have z5 := hap.ne (b := lr) (by wtm_at "k:mem")
      clear NE
      wtm_at "k:go"
      rename_i zs Dm _ hzs lDm lDm' hM2 FM NM
      obtain ⟨b1, hb1⟩ : ∃ b1 : Led, b1 = (Dm, listOf (List.toArray zs) 0) :: (I0', oI) :: b := ⟨_, rfl⟩
      have sb1 : ∀ p ∈ b, p ∈ b1 := by rw [hb1]; wtm_at "k:sub"
      have mm1 : (Dm, listOf (List.toArray zs) 0) ∈ b1 := by rw [hb1]; wtm_at "k:mem"
      have hta1 := sb1 _ hta
      have msx1 := sb1 _ msx'
      have mds1 := sb1 _ mds'
      have mtb1 := sb1 _ mtb'
      have mdt1 := sb1 _ mdt'
      have Ib1 : TabL w b1 tb cv (.ref hd') rej := Ib.mono sb1
      have Cb1 : MadeL w b1 cv cts := Cb.mono sb1
      have hap1 : Ap tl (lr :: b1.map (·.1)) := by
        intro p hp
        rw [hb1]
        refine List.forall_mem_cons.mpr ⟨hap p hp lr (by wtm_at "k:mem"), List.forall_mem_cons.mpr ⟨Nat.ne_of_lt (lDm p (List.mem_cons_of_mem _ (List.mem_cons_of_mem _ (List.mem_append_left _ hp)))), List.forall_mem_cons.mpr ⟨w1 p hp, fun b' hb' => hap p hp b' (List.mem_cons_of_mem _ hb')⟩⟩⟩
      have oflr1 : ∀ p ∈ b1, p.1 ≠ lr := by
        rw [hb1]
        exact List.forall_mem_cons.mpr ⟨Nat.ne_of_gt (lDm (lr, listOf (List.toArray vs) c) (by wtm_at "k:mem")), List.forall_mem_cons.mpr ⟨z1.symm, oflr⟩⟩
      have hlt := IntsAre.length hti
      k_dflt (refine for_src (h₀ := g') (by rfl) (by rfl) ?_)
      wtm_at "k:go"
      first | delta Hold | ((try k_unmd); k_unfold; delta Hold) | (show Hold _; delta Hold)
      refine ⟨tjs.length, _, _, _, (lr, listOf (List.toArray vs) c) :: (tl ++ b1), Src.tup rfl NM (by wtm_at "k:mem"), FM, News.sub NM (by rw [hb1]; wtm_at "k:sub"), fun j m nx => ShV3P9 (fun tl2 vs2 c2 => nx = (lr, listOf (List.toArray vs2) c2) :: (tl2 ++ b1)) (fun tl2 vs2 c2 => m (Str.ofString "result") = some (.ref lr)) (fun tl2 vs2 c2 => m (Str.ofString "self") = some (.ref sx)) (fun tl2 vs2 c2 => m (Str.ofString "start") = some (.int at_ ta)) (fun tl2 vs2 c2 => m (Str.ofString "matched") = some (.ref Dm)) (fun tl2 vs2 c2 => All2 (PairV tl2) vs2 (candAll cts at_ (es.take i) ++ rowOf cts at_ (ts.take j) (e - at_))) (fun tl2 vs2 c2 => (rej = false → rowOf cts at_ (ts.take j) (e - at_) = [])) (fun tl2 vs2 c2 => vs2.length ≤ 4 * i + j) (fun tl2 vs2 c2 => Ap tl2 (lr :: b1.map (·.1))), ?src, ?i0, ?iturn, ?ifin⟩
      case src =>
        rintro _ _ _ ⟨tl2, vs2, c2, rfl, _⟩
        exact List.mem_cons_of_mem _ (List.mem_append_right _ hta1)
      case i0 => exact ⟨tl, vs, c, rfl, hmr, hms, hmt, rfl, by simpa [rowOf] using hvs, fun _ => rfl, by omega, hap1⟩
      case ifin =>
        intro h23 tk23 m₂ nx F23 N23 hJ
        obtain ⟨tl2, vs2, c2, rfl, hmr2, hms2, hmt2, hmm2, hvs2, hrj2, hvl2, hap2⟩ := hJ
        have hta9 : ts.take tjs.length = ts := List.take_of_length_le (by omega)
        rw [hta9] at hvs2 hrj2
        have hq : candAll cts at_ (es.take (i + 1)) = candAll cts at_ (es.take i) ++ rowOf cts at_ ts (e - at_) := candAll_snoc hei
        clear NM
        wtm_at "k:go"
        refine TurnEnd.next F23 N23 ((lr, listOf (List.toArray vs2) c2) :: (tl2 ++ b)) ?_ ?_ ⟨tl2, vs2, c2, rfl, hmr2, hms2, hmt2, by rw [hq]; exact hvs2, fun hr => by rw [hq, hrj hr, hrj2 hr]; rfl, by omega, hap2.adr (List.forall_mem_cons.mpr ⟨List.mem_cons_self, fun b' hb' => List.mem_cons_of_mem _ (map_sub sb1 b' hb')⟩)⟩
        · rw [hb1]; wtm_at "k:sub"
        · have w3 := hap2.ne (b := I0') (List.mem_cons_of_mem _ (mem_adr (o := oI) (by rw [hb1]; wtm_at "k:mem")))
          wtm_at "k:all"
      case iturn =>
        intro j v m₁' nx I2 oI2 h tk E'' hj hP hJ F5 N5 off5
        obtain ⟨tl2, vs2, c2, rfl, hmr2, hms2, hmt2, hmm2, hvs2, hrj2, hvl2, hap2⟩ := hJ
        obtain ⟨k, tk', rfl, hk7⟩ := hti.at j v hP
        change Fr g' L' h _ at F5
        change News g' L' h _ at N5
        have z1' : @Ne Nat lr I2 := off5 (lr, listOf (List.toArray vs2) c2) (by wtm_at "k:mem")
        have w1' : ∀ p ∈ tl2, p.1 ≠ I2 := fun p hp => off5 p (List.mem_cons_of_mem _ (List.mem_append_left _ hp))
        have w2' : ∀ p ∈ b1, p.1 ≠ I2 := fun p hp => off5 p (List.mem_cons_of_mem _ (List.mem_append_right _ hp))
        have z5' := hap2.ne (b := lr) (by wtm_at "k:mem")
        obtain ⟨bd, hbd⟩ : ∃ bd, bodyOf cts k (zs.length : Int) = bd := ⟨_, rfl⟩
        have hbd2 : bodyOf cts k (e - at_) = bd := by rw [← hzs]; exact hbd
        have ht1 : ts.take (j + 1) = ts.take j ++ [k] := by rw [List.take_add_one, hk7]; rfl
        clear NM
        by_cases hpos : 0 < bd
        · wtm_at "k:go"
          rename_i Dp hP1 FP NP lDp lDp'
          have lv2 := All2.length hvs2
          k_dflt (refine' append_K (by k_asm) NP ?k3 ?_ ?z)
          case k3 => k_upd
          case z => (simp only [List.size_toArray]; rw [sizeLine_eq]; omega)
          intro h21 F21 N21
          rw [List.push_toArray] at N21
          have hsn : rowOf cts at_ (ts.take (j + 1)) (e - at_) = rowOf cts at_ (ts.take j) (e - at_) ++ [((at_ : Int) + bd, k)] := by rw [ht1, rowOf_snoc, hbd2, if_pos hpos]
          have y2 : @Ne Nat Dp I2 := Nat.ne_of_gt (lDp (I2, oI2) (by wtm_at "k:mem"))
          cases rej with
          | true =>
            wtm_at "k:go"
            refine TurnEnd.next F21 N21 ((lr, listOf (List.toArray (vs2 ++ [.ref Dp])) (c2 + 1)) :: (((Dp, tupOf [.int ((at_ : Int) + bd) _, .int k tk'] 0) :: tl2) ++ b1)) (by simp only [List.cons_append]; wtm_at "k:sub") (by simp only [List.cons_append]; wtm_at "k:all") ⟨(Dp, _) :: tl2, vs2 ++ [.ref Dp], c2 + 1, rfl, hmr2, hms2, hmt2, hmm2, ?_, (fun hr => nomatch hr), by simp only [List.length_append, List.length_singleton]; omega, hap2.cons (List.forall_mem_cons.mpr ⟨Nat.ne_of_gt lDp'.2.1, adr_lt lDp (by wtm_at "k:sub")⟩)⟩
            rw [hsn, ← List.append_assoc]
            exact (hvs2.mono fun _ _ => PairV.mono (by wtm_at "k:sub")).snoc ⟨Dp, _, _, _, rfl, List.mem_cons_self⟩
          | false =>
            wtm_at "k:go"
            try dsimp only [TurnEnd]
            wtm_at "k:go"
            rename_i kF kN kT kX
            have q1 := hrj rfl
            have q2 := hrj2 rfl
            have snb : ∀ p ∈ news, p ∈ b1 := fun p hp => sb1 _ (sb _ hp)
            rw [q1, q2] at hvs2
            have hv0 : vs2 = [] := List.eq_nil_of_length_eq_zero (All2.length hvs2)
            have hc : candOf false cts at_ es = [((at_ : Int) + bd, k)] := by
              unfold candOf
              rw [if_neg (by decide), cand_first hei q1 hk7 q2 (by rw [hbd2]; exact hpos), hbd2]
            rw [hv0] at kN
            refine ret _ [(lr, listOf (List.toArray ([] ++ [.ref Dp])) (c2 + 1)), (Dp, tupOf [.int ((at_ : Int) + bd) _, .int k tk'] 0)] _ _ ⟨lr, _, _, rfl, List.mem_cons_self, ?_⟩ kF (News.sub kN (List.forall_mem_cons.mpr ⟨by wtm_at "k:mem", List.forall_mem_cons.mpr ⟨by wtm_at "k:mem", fun p hp => List.mem_cons_of_mem _ (List.mem_cons_of_mem _ (List.mem_cons_of_mem _ (List.mem_append_right _ (snb p hp))))⟩⟩)) ((Ap.nil.cons (adr_lt lDp fun p hp => List.mem_cons_of_mem _ (List.mem_cons_of_mem _ (List.mem_append_right _ (snb p hp))))).cons (adr_lt llr (by wtm_at "k:sub")))
            rw [hc]
            exact .cons ⟨Dp, _, _, _, rfl, List.mem_cons_of_mem _ List.mem_cons_self⟩ .nil
        · wtm_at "k:go"
          rename_i FQ NQ _
          refine TurnEnd.next FQ NQ _ (by wtm_at "k:sub") off5 ⟨tl2, vs2, c2, rfl, hmr2, hms2, hmt2, hmm2, ?_, ?_, by omega, hap2⟩
          · rw [ht1, rowOf_snoc, hbd2, if_neg hpos, List.append_nil]; exact hvs2
          · rw [ht1, rowOf_snoc, hbd2, if_neg hpos, List.append_nil]; exact hrj2
end
theorem lines16 : True := by
  w_top off
  k_with_none
  k_with "k:k1" => ((first | (k_unfold; (try dsimp only)) | (k_end; wrow_close) | walk1 | (dsimp only; walk1) | (leave1; walk_say "STEP leave1"; try dsimp only) | fail "no step"))
  k_with "k:mem" => (first | exact List.mem_cons_self | ktr_member | (refine List.mem_cons_of_mem _ ?_; wtm_at "k:mem") | (refine List.mem_append_left _ ?_; wtm_at "k:mem") | (refine List.mem_append_right _ ?_; wtm_at "k:mem"))
  k_with "k:sub" => (first | with_reducible exact sub_refl | with_reducible assumption | with_reducible exact sub_nil | (with_reducible refine sub_of_cons ?_ ?_; (focus (wtm_at "k:mem")); wtm_at "k:sub") | (with_reducible refine sub_of_app ?_ ?_; (focus (wtm_at "k:sub")); wtm_at "k:sub") | (with_reducible refine sub_cons ?_; wtm_at "k:sub") | (with_reducible refine sub_appl ?_; wtm_at "k:sub") | (with_reducible refine sub_appr ?_; wtm_at "k:sub"))
  k_with "k:front" => (first | exact Front.head | exact Front.tail (by wtm_at "k:front") | exact Front.app (by wtm_at "k:front"))
  k_with "eval Name" => ((k_here; (fail_if_success (fail_if_success ((with_reducible refine loc_first ?_ ?_); (focus (k_dflt rfl))))); k_dflt (refine' nameX_L (by k_asm) (by first | rfl | assumption) ?_ (by rfl) (by rfl); k_whole)))
  k_with "eval Name" => ((k_here; (with_reducible show wpAny _ _ (eval (Expr.Name _ _) (envX _ _ _ _ _ _)) _ _ _); k_dflt (first
  | (refine' nameX_L (by k_asm) (by first | rfl | assumption) ?_ (by rfl) (by rfl); k_whole)
  | (refine' nameX_F (by k_asm) (by rfl) (by k_mem) (by k_asm) ?_ (by rfl) (by rfl); k_whole)
  | (refine' nameX_C (by k_asm) (by rfl) (by k_mem) (by k_asm) ?_ (by rfl) (by rfl); k_whole)
  | (refine' nameX_K (by k_asm) (by k_asm) (by k_asm) (by k_is) ?_ (by rfl) (by rfl); k_whole)
  | (refine' nameX_B (by k_asm) (by k_asm) (by k_asm) (by k_is) (by boot_fast) (by decide) ?_ (by rfl) (by rfl); k_whole))))
  k_with "k:all" => (first | with_reducible assumption | exact List.forall_mem_nil _ | (with_reducible refine List.forall_mem_cons.mpr ⟨?_, ?_⟩; (focus k_ne); wtm_at "k:all") | (with_reducible refine List.forall_mem_append.mpr ⟨?_, ?_⟩; (focus (wtm_at "k:all")); wtm_at "k:all") | exact Ap.ne (by with_reducible assumption) (by wtm_at "k:mem") | exact lts_ne (by with_reducible assumption) (by omega) | exact gts_ne (by with_reducible assumption) (by omega) | exact lts_sub_ne (by with_reducible assumption) (by wtm_at "k:sub"))
  k_with "callWith ref" => ((k_here; k_dflt (refine' callWith_F (TakeIn.fnAt (by k_asm) (by assumption) (by wtm_at "k:sub")) ?_)))
  k_with "And" => (((with_reducible show FnAt _ _ ∧ _); refine' ⟨TakeIn.fnAt (by k_asm) (by assumption) (by wtm_at "k:sub"), ?_⟩; try dsimp only [List.nil_append, List.cons_append]))
  k_with "call ref" => ((k_here; k_dflt (refine' take_call (by assumption) (by k_asm) (by k_asm) (by k_asm) (by k_asm) (by k_asm) (by wtm_at "k:front") (by wtm_at "k:sub") (by wtm_at "k:all") (by first | assumption | rfl) (by assumption) (by omega) (by omega) (by omega) (by omega) (by omega) (by omega) ?_); intro _ _ _ _ _ _ _ _ _; (try k_sweep)))
  k_with "k:haltX" => ((with_reducible show wpAny _ _ (exec (Stmt.Assign _ (Expr.ListComp _ _ _ _) _) _) _ _ _))
  k_with "k:haltX" => ((with_reducible show wpAny _ _ (exec (Stmt.For _ _ _ _ _) _) _ _ _))
  k_with "k:haltE" => ((with_reducible show wpAny _ _ (eval (Expr.ListComp _ _ _ _) _) _ _ _))
  k_with "k:halt" => (wtm_at "k:haltO")
  k_with "k:halt" => (wtm_at "k:haltE")
  k_with "k:halt" => (wtm_at "k:haltX")
  k_with "k:go" => ((try k_fold); repeat' ((fail_if_success (wtm_at "k:halt")); wtm_at "k:k1"))
  k_with "k:haltO" => ((with_reducible show LCg.CompEnd _ _ _ _ _ _ _ _ _ _ _ _ _ _))
  k_with "k:haltO" => ((with_reducible show TurnEnd _ _ _ _ _ _ _ _ _))
  k_with "call type:tuple" => ((k_here; (with_reducible show wpAny _ _ (call (Value.type _) [Value.ref _]) _ _ _); k_dflt (refine' kde_tupleOf (by k_asm) (by k_asm) (by exact News.isList (by k_asm) (by k_mem)) (by ((have hq9 := IntsAre.length (by assumption)); (simp only [List.size_toArray]); omega)) (by rfl) ?_; k_whole); intro _ _ _ _ l1; (try k_lt l1); (try k_sweep)); (try (revert l1; intro _)))
  k_with "k:haltE" => ((with_reducible show wpAny _ _ (call (Value.builtin "list.append") _) _ _ _))
  k_with "subscriptTail Attribute" => ((k_here; k_dflt (refine kba_turn (value' := PySem.Expr.Name (PySem.Str.ofString "_") ⟨0, 0, 0, 0⟩) (fun _ => rfl) ?_)))
  k_with "subscriptTail Subscript" => ((k_here; k_dflt (refine kba_turn (value' := PySem.Expr.Name (PySem.Str.ofString "_") ⟨0, 0, 0, 0⟩) (fun _ => rfl) ?_)))
  k_with "subscriptTail" => (wtm_at "k:fsub")
  k_with "subscriptTail Name Name ref int" => (wtm_at "k:fsub")
  k_with "subscriptTail Name Name str int" => (wtm_at "k:fsub")
  k_with "subscriptTail Name Name ref str" => (wtm_at "k:fsub")
  k_with "subscriptTail Name Constant ref int" => (wtm_at "k:fsub")
  k_with "subscriptTail Name Constant str int" => (wtm_at "k:fsub")
  k_with "subscriptTail Name Constant ref str" => (wtm_at "k:fsub")
  k_with "subscriptTail Name BinOp ref int" => (wtm_at "k:fsub")
  k_with "subscriptTail Name BinOp str int" => (wtm_at "k:fsub")
  k_with "subscriptTail Name BinOp ref str" => (wtm_at "k:fsub")
  k_with "execs cons" => ((k_here; (with_reducible refine gen_toks ?_); (intro (tk : Nat))))
  k_with "execs nil" => ((k_here; (with_reducible refine gen_toks ?_); (intro (tk : Nat))))
  k_with "getMethod ref" => ((k_here; (with_reducible show wpAny _ _ (getMethod _ (Str.ofString "values") _) _ _ _); k_dflt (refine' kdl_method (knd := PySem.intKind _ _) PySem.F.slot_dict_values PySem.F.type_dict_values (by k_asm) (by k_mem) (by assumption) ?_)))
  k_with "call builtin:dict.values" => ((k_here; k_dflt (refine' kdl_view_values (knd := PySem.intKind _ _) (by k_asm) (by k_asm) (by k_mem) (by assumption) (by assumption) ?_); intro _ _ _ _ l1; (try k_lt l1)); (try (revert l1; intro _)))
  k_with "call type:set" => ((k_here; (with_reducible show wpAny _ _ (call (Value.type "set") [Value.ref _]) _ _ _); k_dflt (refine' setOf_vals (by exact rfl) (by k_asm) (by k_asm) (by k_mem) (by k_mem) (by assumption) ?_); intro _ _ _ _ _ _ l1; (try k_lt l1)); (try (revert l1; intro _)))
  k_with "call builtin:sorted" => ((k_here; (with_reducible show wpAny _ _ (call (Value.builtin "sorted") [Value.ref _]) _ _ _); k_dflt (refine' sortedE (by exact rfl) (by k_asm) (by k_asm) (by k_mem) ?_); intro _ _ _ _ _))
  k_with "call ref" => ((k_here; k_dflt (refine wpAny_call ?_; refine' rej_spec (by k_asm) (by k_asm) (by k_asm) (by k_asm) (by k_asm) (by first | assumption | rfl) (by omega) (by omega) (by k_mem) (by (refine All2.mono (fun _ _ => RuleL.mono ?_) (by assumption); wtm_at "k:sub")) ?_); intro _ _ _ _; (try k_sweep)))
  trivial
section
/-- the tables as they lie, with the classes and the names -/
def TabF (w : World) (l : Led) (tb : Addr) (v1 v2 v7 cv hv : Value) (rej : Bool) : Prop := ShV13P2 (fun dx v4 v6 v8 t1 t2 t3 t4 t5 t6 t7 t8 t9 => (tb, instObj 224 dx) ∈ l) (fun dx v4 v6 v8 t1 t2 t3 t4 t5 t6 t7 t8 t9 => (dx, dictOf [att w "classes" t1 v1, att w "names" t2 v2, att w "automata" t3 hv, att w "rules" t4 v4, att w "cuts" t5 cv, att w "ends" t6 v6, att w "has_default" t7 v7, att w "end_rules" t8 v8, att w "has_reject" t9 (.bool rej)] 9) ∈ l)
theorem TabF.mono {w : World} {l l' : Led} {tb : Addr} {v1 v2 v7 cv hv : Value} {rej : Bool} (hs : ∀ p ∈ l, p ∈ l') (h : TabF w l tb v1 v2 v7 cv hv rej) : TabF w l' tb v1 v2 v7 cv hv rej := by
  obtain ⟨dx, v4, v6, v8, t1, t2, t3, t4, t5, t6, t7, t8, t9, h1, h2⟩ := h
  exact ⟨dx, v4, v6, v8, t1, t2, t3, t4, t5, t6, t7, t8, t9, hs _ h1, hs _ h2⟩
theorem TabF.tab {w : World} {l : Led} {tb : Addr} {v1 v2 v7 cv hv : Value} {rej : Bool} (h : TabF w l tb v1 v2 v7 cv hv rej) : TabL w l tb cv hv rej := by
  obtain ⟨dx, v4, v6, v8, t1, t2, t3, t4, t5, t6, t7, t8, t9, h1, h2⟩ := h
  exact ⟨dx, _, _, _, _, _, _, _, _, _, _, _, _, _, _, _, h1, h2⟩
theorem tables_init {w : World} {dp un : Nat} {gd : Option (List Code)} {cn : Str} {cs : Scope} {a : Addr} {ccd : Value} {cl : List (Str × Addr)} {outer : List Env} {A₀ : Around} {base h₀ : Heap} {L : Addr} {m mg mb : Str → Option Value} {mean : ExcName → Option Value} {tP : Program} {tL : List Str}
    {news : List (Addr × Obj)} {s : Shared} {R : Result → Shared → Prop} {x dx rl ed : Addr} {rvs : List Value} {rn : Nat} {bs : List Bool} {v1 v2 hv cv : Value} {eo : Obj}
    (B : Below A₀ base outer h₀) (F : Fr h₀ L s.heap m) (X : (hd.heap_1 w.params).In h₀) (N : News h₀ L s.heap ((x, instObj 224 dx) :: (dx, dictOf [] 0) :: news)) (T : Top tP tL mean mg mb h₀) (hk : cs.kind = .function)
    (hdp : dp + 150 < recursionLimit) (hun : un + 400 < cLine) (hm : (rl, listOf (List.toArray rvs) rn) ∈ news) (hall : All2 (RuleL w news) rvs bs) (he : (ed, eo) ∈ news) (hed : IntD w eo []) (hlo : (ed == sysModules) = false) (off : ∀ p ∈ news, @LT.lt Nat _ p.1 dx) (hxd : @LT.lt Nat _ dx x)
    (ret : ∀ h' tks tl, Fr h₀ L h' m → News h₀ L h' (tl ++ news) → TabF w tl x v1 v2 (.bool true) cv hv (bs.any id) → R (.ok (.ret .none)) { s with heap := h', toks := tks }) :
    codeAny (model prg w) (ktrTop dp un gd cn cs L a ccd cl outer) (.call (.ref 193) ⟨[.ref x, v1, v2, hv, .ref rl, cv, .ref ed, .bool true], []⟩) R s := by
  obtain ⟨kd, nm, b1, b2, mo⟩ := cs
  cases hk
  k_dflt (refine' code_def (env := envX cn ⟨.function, nm, b1, b2, mo⟩ L a ccd cl) (outer := outer) B F X N T ?kA ?kF rfl ?k6 ?k7 ?k8 ?k9 ?kB ?_ ?c2 ?c3 ?c4 ?c5; (case kA => exact rfl); (case kF => exact rfl); (case k6 => k_is); (case k7 => k_is); (case k8 => k_room); (case k9 => exact BindsTo.of_eq (binds := [(Str.ofString "self", .ref x), (Str.ofString "classes", v1), (Str.ofString "names", v2), (Str.ofString "automata", hv), (Str.ofString "rules", .ref rl), (Str.ofString "cuts", cv), (Str.ofString "ends", .ref ed), (Str.ofString "has_default", .bool true)]) rfl); (case c5 => decide); (case kB => exact locs rfl); (case c2 => exact rfl); (case c3 => exact rfl); (case c4 => exact rfl); k_whole)
  intro g' L' h' FG' F' N' B' X' T'
  with_reducible refine no_raise ?_
  change wpAny _ (ktrTop (dp + 1) (un + 3) gd _ _ _ _ _ [] (envX cn ⟨.function, nm, b1, b2, mo⟩ L a ccd cl :: outer)) _ _ _ _
  try dsimp only
  k_fold
  clear N
  have offdx : ∀ p ∈ news, p.1 ≠ dx := fun p hp => Nat.ne_of_lt (off p hp)
  have n1 : @Ne Nat x dx := Nat.ne_of_gt hxd
  obtain ⟨kvs, hed, hal⟩ := hed
  cases hal
  wtm_at "k:go"
  rename_i kF kN kT kX
  exact ret _ _ [(_, _), (_, _), (x, instObj 224 dx), (dx, _)] kF kN ⟨dx, _, _, _, _, _, _, _, _, _, _, _, _, by wtm_at "k:mem", by wtm_at "k:mem"⟩
end
theorem lines17 : True := by
  w_top off
  k_with_none
  k_with "k:k1" => ((first | (k_unfold; (try dsimp only)) | (k_end; wrow_close) | walk1 | (dsimp only; walk1) | (leave1; walk_say "STEP leave1"; try dsimp only) | fail "no step"))
  k_with "k:mem" => (first | exact List.mem_cons_self | ktr_member | (refine List.mem_cons_of_mem _ ?_; wtm_at "k:mem") | (refine List.mem_append_left _ ?_; wtm_at "k:mem") | (refine List.mem_append_right _ ?_; wtm_at "k:mem"))
  k_with "k:sub" => (first | with_reducible exact sub_refl | with_reducible assumption | with_reducible exact sub_nil | (with_reducible refine sub_of_cons ?_ ?_; (focus (wtm_at "k:mem")); wtm_at "k:sub") | (with_reducible refine sub_of_app ?_ ?_; (focus (wtm_at "k:sub")); wtm_at "k:sub") | (with_reducible refine sub_cons ?_; wtm_at "k:sub") | (with_reducible refine sub_appl ?_; wtm_at "k:sub") | (with_reducible refine sub_appr ?_; wtm_at "k:sub"))
  k_with "k:front" => (first | exact Front.head | exact Front.tail (by wtm_at "k:front") | exact Front.app (by wtm_at "k:front"))
  k_with "eval Name" => ((k_here; (fail_if_success (fail_if_success ((with_reducible refine loc_first ?_ ?_); (focus (k_dflt rfl))))); k_dflt (refine' nameX_L (by k_asm) (by first | rfl | assumption) ?_ (by rfl) (by rfl); k_whole)))
  k_with "eval Name" => ((k_here; (with_reducible show wpAny _ _ (eval (Expr.Name _ _) (envX _ _ _ _ _ _)) _ _ _); k_dflt (first
  | (refine' nameX_L (by k_asm) (by first | rfl | assumption) ?_ (by rfl) (by rfl); k_whole)
  | (refine' nameX_F (by k_asm) (by rfl) (by k_mem) (by k_asm) ?_ (by rfl) (by rfl); k_whole)
  | (refine' nameX_C (by k_asm) (by rfl) (by k_mem) (by k_asm) ?_ (by rfl) (by rfl); k_whole)
  | (refine' nameX_K (by k_asm) (by k_asm) (by k_asm) (by k_is) ?_ (by rfl) (by rfl); k_whole)
  | (refine' nameX_B (by k_asm) (by k_asm) (by k_asm) (by k_is) (by boot_fast) (by decide) ?_ (by rfl) (by rfl); k_whole))))
  k_with "k:all" => (first | with_reducible assumption | exact List.forall_mem_nil _ | (with_reducible refine List.forall_mem_cons.mpr ⟨?_, ?_⟩; (focus k_ne); wtm_at "k:all") | (with_reducible refine List.forall_mem_append.mpr ⟨?_, ?_⟩; (focus (wtm_at "k:all")); wtm_at "k:all") | exact Ap.ne (by with_reducible assumption) (by wtm_at "k:mem") | exact lts_ne (by with_reducible assumption) (by omega) | exact gts_ne (by with_reducible assumption) (by omega) | exact lts_sub_ne (by with_reducible assumption) (by wtm_at "k:sub"))
  k_with "callWith ref" => ((k_here; k_dflt (refine' callWith_F (TakeIn.fnAt (by k_asm) (by assumption) (by wtm_at "k:sub")) ?_)))
  k_with "And" => (((with_reducible show FnAt _ _ ∧ _); refine' ⟨TakeIn.fnAt (by k_asm) (by assumption) (by wtm_at "k:sub"), ?_⟩; try dsimp only [List.nil_append, List.cons_append]))
  k_with "call ref" => ((k_here; k_dflt (refine' take_call (by assumption) (by k_asm) (by k_asm) (by k_asm) (by k_asm) (by k_asm) (by wtm_at "k:front") (by wtm_at "k:sub") (by wtm_at "k:all") (by first | assumption | rfl) (by assumption) (by omega) (by omega) (by omega) (by omega) (by omega) (by omega) ?_); intro _ _ _ _ _ _ _ _ _; (try k_sweep)))
  k_with "k:haltX" => ((with_reducible show wpAny _ _ (exec (Stmt.Assign _ (Expr.ListComp _ _ _ _) _) _) _ _ _))
  k_with "k:haltX" => ((with_reducible show wpAny _ _ (exec (Stmt.For _ _ _ _ _) _) _ _ _))
  k_with "k:haltE" => ((with_reducible show wpAny _ _ (eval (Expr.ListComp _ _ _ _) _) _ _ _))
  k_with "k:halt" => (wtm_at "k:haltO")
  k_with "k:halt" => (wtm_at "k:haltE")
  k_with "k:halt" => (wtm_at "k:haltX")
  k_with "k:go" => ((try k_fold); repeat' ((fail_if_success (wtm_at "k:halt")); wtm_at "k:k1"))
  k_with "k:haltO" => ((with_reducible show LCg.CompEnd _ _ _ _ _ _ _ _ _ _ _ _ _ _))
  k_with "k:haltO" => ((with_reducible show TurnEnd _ _ _ _ _ _ _ _ _))
  k_with "call type:tuple" => ((k_here; (with_reducible show wpAny _ _ (call (Value.type _) [Value.ref _]) _ _ _); k_dflt (refine' kde_tupleOf (by k_asm) (by k_asm) (by exact News.isList (by k_asm) (by k_mem)) (by ((have hq9 := IntsAre.length (by assumption)); (simp only [List.size_toArray]); omega)) (by rfl) ?_; k_whole); intro _ _ _ _ l1; (try k_lt l1); (try k_sweep)); (try (revert l1; intro _)))
  k_with "k:haltE" => ((with_reducible show wpAny _ _ (call (Value.builtin "list.append") _) _ _ _))
  k_with "subscriptTail Attribute" => ((k_here; k_dflt (refine kba_turn (value' := PySem.Expr.Name (PySem.Str.ofString "_") ⟨0, 0, 0, 0⟩) (fun _ => rfl) ?_)))
  k_with "subscriptTail Subscript" => ((k_here; k_dflt (refine kba_turn (value' := PySem.Expr.Name (PySem.Str.ofString "_") ⟨0, 0, 0, 0⟩) (fun _ => rfl) ?_)))
  k_with "subscriptTail" => (wtm_at "k:fsub")
  k_with "subscriptTail Name Name ref int" => (wtm_at "k:fsub")
  k_with "subscriptTail Name Name str int" => (wtm_at "k:fsub")
  k_with "subscriptTail Name Name ref str" => (wtm_at "k:fsub")
  k_with "subscriptTail Name Constant ref int" => (wtm_at "k:fsub")
  k_with "subscriptTail Name Constant str int" => (wtm_at "k:fsub")
  k_with "subscriptTail Name Constant ref str" => (wtm_at "k:fsub")
  k_with "subscriptTail Name BinOp ref int" => (wtm_at "k:fsub")
  k_with "subscriptTail Name BinOp str int" => (wtm_at "k:fsub")
  k_with "subscriptTail Name BinOp ref str" => (wtm_at "k:fsub")
  k_with "execs cons" => ((k_here; (with_reducible refine gen_toks ?_); (intro (tk : Nat))))
  k_with "execs nil" => ((k_here; (with_reducible refine gen_toks ?_); (intro (tk : Nat))))
  k_with "k:haltO" => ((with_reducible show Hold _))
  k_with "call ref" => ((k_here; k_dflt (refine wpAny_call ?_; refine' word_spec (by k_asm) (by k_asm) (by k_asm) (by k_asm) (by k_asm) (by first | assumption | rfl) (by omega) (by omega) (by (refine ClsL.mono ?_ (by assumption); wtm_at "k:sub")) (by assumption) (by assumption) ?_); intro _ _ _ _ _ _ _ _ _; (try k_sweep)))
  trivial
section
theorem scan_init {w : World} {dp un : Nat} {gd : Option (List Code)} {cn : Str} {cs : Scope} {a : Addr} {ccd : Value} {cl : List (Str × Addr)} {outer : List Env} {A₀ : Around} {base h₀ : Heap} {L : Addr} {m mg mb : Str → Option Value} {mean : ExcName → Option Value} {tP : Program} {tL : List Str}
    {news : List (Addr × Obj)} {s : Shared} {R : Result → Shared → Prop} {x dx tb cx : Addr} {n2 : Addr} {hv cv : Value} {tx : Str} {t : Tok} {rej : Bool}
    (B : Below A₀ base outer h₀) (F : Fr h₀ L s.heap m) (X : (hd.heap_1 w.params).In h₀) (N : News h₀ L s.heap ((x, instObj 421 dx) :: (dx, dictOf [] 0) :: news)) (T : Top tP tL mean mg mb h₀) (hk : cs.kind = .function)
    (hdp : dp + 200 < recursionLimit) (hun : un + 500 < cLine) (I : TabF w news tb (.ref cx) (.ref n2) (.bool true) cv hv rej) (C : ClsL w news (.ref cx)) (hx : ∀ (i c : Nat), tx.cps[i]? = some c → Abn c) (hx6 : tx.cps.size ≤ 6) (off : ∀ p ∈ news, @LT.lt Nat _ p.1 dx) (hxd : @LT.lt Nat _ dx x)
    (ret : ∀ h' tks nb nvs nc pl tl9 tl, Fr h₀ L h' m → News h₀ L h' (tl ++ news) → ScanL w tl x tx tb nb pl tl9 → (nb, listOf (List.toArray nvs) nc) ∈ tl → (tl9, listOf (List.toArray []) 0) ∈ tl → IntsAre nvs (tx.cps.toList.map numOf) → R (.ok (.ret .none)) { s with heap := h', toks := tks }) :
    codeAny (model prg w) (ktrTop dp un gd cn cs L a ccd cl outer) (.call (.ref 397) ⟨[.ref x, .ref tb, .str tx t], []⟩) R s := by
  obtain ⟨kd, nm, b1, b2, mo⟩ := cs
  cases hk
  obtain ⟨dtb, v4, v6, v8, q1, q2, q3, q4, q5, q6, q7, q8, q9, mtb, mdt⟩ := I
  have C0 := C
  obtain ⟨x', cdx, lb, ln, bvs, nvs, cb, cn', t1, t2, t3, t4, e, i1, i2, i3, i4, i5, i6⟩ := C
  cases e
  k_dflt (refine' code_def (env := envX cn ⟨.function, nm, b1, b2, mo⟩ L a ccd cl) (outer := outer) B F X N T ?kA ?kF rfl ?k6 ?k7 ?k8 ?k9 ?kB ?_ ?c2 ?c3 ?c4 ?c5; (case kA => exact rfl); (case kF => exact rfl); (case k6 => k_is); (case k7 => k_is); (case k8 => k_room); (case k9 => exact binds_K (binds := [(Str.ofString "self", .ref x), (Str.ofString "tables", .ref tb), (Str.ofString "text", .str tx t), (Str.ofString "most", .int 2000 _)]) (X.keeps F.keep) rfl (by k_is) rfl rfl rfl); (case c5 => decide); (case kB => exact locs rfl); (case c2 => exact rfl); (case c3 => exact rfl); (case c4 => exact rfl); k_whole)
  intro g' L' h' FG' F' N' B' X' T'
  with_reducible refine no_raise ?_
  change wpAny _ (ktrTop (dp + 1) (un + 3) gd _ _ _ _ _ [] (envX cn ⟨.function, nm, b1, b2, mo⟩ L a ccd cl :: outer)) _ _ _ _
  try dsimp only
  k_fold
  clear N
  have offdx : ∀ p ∈ news, p.1 ≠ dx := fun p hp => Nat.ne_of_lt (off p hp)
  have n1 : @Ne Nat x dx := Nat.ne_of_gt hxd
  wtm_at "k:go"
  rename_i nb nvs nc hN tN FN NN IN oN
  have n2 : @Ne Nat nb dx := Ne.symm (oN (dx, _) (by wtm_at "k:mem"))
  have n3 : @Ne Nat nb x := Ne.symm (oN (x, _) (by wtm_at "k:mem"))
  wtm_at "k:go"
  rename_i kF kN kT kX
  exact ret _ _ nb nvs nc _ _ [(nb, _), (_, listOf (List.toArray []) 0), (_, listOf (List.toArray []) 0), (x, _), (dx, _)] kF kN ⟨dx, _, _, _, _, _, _, _, _, _, _, _, _, _, _, _, _, _, _, _, _, _, _, _, _, by wtm_at "k:mem", by wtm_at "k:mem"⟩ (by wtm_at "k:mem") (by wtm_at "k:mem") IN
end
theorem lines18 : True := by
  w_top off
  k_with_none
  k_with "k:k1" => ((first | (k_unfold; (try dsimp only)) | (k_end; wrow_close) | walk1 | (dsimp only; walk1) | (leave1; walk_say "STEP leave1"; try dsimp only) | fail "no step"))
  k_with "k:mem" => (first | exact List.mem_cons_self | ktr_member | (refine List.mem_cons_of_mem _ ?_; wtm_at "k:mem") | (refine List.mem_append_left _ ?_; wtm_at "k:mem") | (refine List.mem_append_right _ ?_; wtm_at "k:mem"))
  k_with "k:sub" => (first | with_reducible exact sub_refl | with_reducible assumption | with_reducible exact sub_nil | (with_reducible refine sub_of_cons ?_ ?_; (focus (wtm_at "k:mem")); wtm_at "k:sub") | (with_reducible refine sub_of_app ?_ ?_; (focus (wtm_at "k:sub")); wtm_at "k:sub") | (with_reducible refine sub_cons ?_; wtm_at "k:sub") | (with_reducible refine sub_appl ?_; wtm_at "k:sub") | (with_reducible refine sub_appr ?_; wtm_at "k:sub"))
  k_with "k:front" => (first | exact Front.head | exact Front.tail (by wtm_at "k:front") | exact Front.app (by wtm_at "k:front"))
  k_with "eval Name" => ((k_here; (fail_if_success (fail_if_success ((with_reducible refine loc_first ?_ ?_); (focus (k_dflt rfl))))); k_dflt (refine' nameX_L (by k_asm) (by first | rfl | assumption) ?_ (by rfl) (by rfl); k_whole)))
  k_with "eval Name" => ((k_here; (with_reducible show wpAny _ _ (eval (Expr.Name _ _) (envX _ _ _ _ _ _)) _ _ _); k_dflt (first
  | (refine' nameX_L (by k_asm) (by first | rfl | assumption) ?_ (by rfl) (by rfl); k_whole)
  | (refine' nameX_F (by k_asm) (by rfl) (by k_mem) (by k_asm) ?_ (by rfl) (by rfl); k_whole)
  | (refine' nameX_C (by k_asm) (by rfl) (by k_mem) (by k_asm) ?_ (by rfl) (by rfl); k_whole)
  | (refine' nameX_K (by k_asm) (by k_asm) (by k_asm) (by k_is) ?_ (by rfl) (by rfl); k_whole)
  | (refine' nameX_B (by k_asm) (by k_asm) (by k_asm) (by k_is) (by boot_fast) (by decide) ?_ (by rfl) (by rfl); k_whole))))
  k_with "k:all" => (first | with_reducible assumption | exact List.forall_mem_nil _ | (with_reducible refine List.forall_mem_cons.mpr ⟨?_, ?_⟩; (focus k_ne); wtm_at "k:all") | (with_reducible refine List.forall_mem_append.mpr ⟨?_, ?_⟩; (focus (wtm_at "k:all")); wtm_at "k:all") | exact Ap.ne (by with_reducible assumption) (by wtm_at "k:mem") | exact lts_ne (by with_reducible assumption) (by omega) | exact gts_ne (by with_reducible assumption) (by omega) | exact lts_sub_ne (by with_reducible assumption) (by wtm_at "k:sub"))
  k_with "callWith ref" => ((k_here; k_dflt (refine' callWith_F (TakeIn.fnAt (by k_asm) (by assumption) (by wtm_at "k:sub")) ?_)))
  k_with "And" => (((with_reducible show FnAt _ _ ∧ _); refine' ⟨TakeIn.fnAt (by k_asm) (by assumption) (by wtm_at "k:sub"), ?_⟩; try dsimp only [List.nil_append, List.cons_append]))
  k_with "call ref" => ((k_here; k_dflt (refine' take_call (by assumption) (by k_asm) (by k_asm) (by k_asm) (by k_asm) (by k_asm) (by wtm_at "k:front") (by wtm_at "k:sub") (by wtm_at "k:all") (by first | assumption | rfl) (by assumption) (by omega) (by omega) (by omega) (by omega) (by omega) (by omega) ?_); intro _ _ _ _ _ _ _ _ _; (try k_sweep)))
  k_with "k:haltX" => ((with_reducible show wpAny _ _ (exec (Stmt.Assign _ (Expr.ListComp _ _ _ _) _) _) _ _ _))
  k_with "k:haltX" => ((with_reducible show wpAny _ _ (exec (Stmt.For _ _ _ _ _) _) _ _ _))
  k_with "k:haltE" => ((with_reducible show wpAny _ _ (eval (Expr.ListComp _ _ _ _) _) _ _ _))
  k_with "k:halt" => (wtm_at "k:haltO")
  k_with "k:halt" => (wtm_at "k:haltE")
  k_with "k:halt" => (wtm_at "k:haltX")
  k_with "k:go" => ((try k_fold); repeat' ((fail_if_success (wtm_at "k:halt")); wtm_at "k:k1"))
  k_with "k:haltO" => ((with_reducible show LCg.CompEnd _ _ _ _ _ _ _ _ _ _ _ _ _ _))
  k_with "k:haltO" => ((with_reducible show TurnEnd _ _ _ _ _ _ _ _ _))
  k_with "call type:tuple" => ((k_here; (with_reducible show wpAny _ _ (call (Value.type _) [Value.ref _]) _ _ _); k_dflt (refine' kde_tupleOf (by k_asm) (by k_asm) (by exact News.isList (by k_asm) (by k_mem)) (by ((have hq9 := IntsAre.length (by assumption)); (simp only [List.size_toArray]); omega)) (by rfl) ?_; k_whole); intro _ _ _ _ l1; (try k_lt l1); (try k_sweep)); (try (revert l1; intro _)))
  k_with "k:haltE" => ((with_reducible show wpAny _ _ (call (Value.builtin "list.append") _) _ _ _))
  k_with "subscriptTail Attribute" => ((k_here; k_dflt (refine kba_turn (value' := PySem.Expr.Name (PySem.Str.ofString "_") ⟨0, 0, 0, 0⟩) (fun _ => rfl) ?_)))
  k_with "subscriptTail Subscript" => ((k_here; k_dflt (refine kba_turn (value' := PySem.Expr.Name (PySem.Str.ofString "_") ⟨0, 0, 0, 0⟩) (fun _ => rfl) ?_)))
  k_with "subscriptTail" => (wtm_at "k:fsub")
  k_with "subscriptTail Name Name ref int" => (wtm_at "k:fsub")
  k_with "subscriptTail Name Name str int" => (wtm_at "k:fsub")
  k_with "subscriptTail Name Name ref str" => (wtm_at "k:fsub")
  k_with "subscriptTail Name Constant ref int" => (wtm_at "k:fsub")
  k_with "subscriptTail Name Constant str int" => (wtm_at "k:fsub")
  k_with "subscriptTail Name Constant ref str" => (wtm_at "k:fsub")
  k_with "subscriptTail Name BinOp ref int" => (wtm_at "k:fsub")
  k_with "subscriptTail Name BinOp str int" => (wtm_at "k:fsub")
  k_with "subscriptTail Name BinOp ref str" => (wtm_at "k:fsub")
  k_with "execs cons" => ((k_here; (with_reducible refine gen_toks ?_); (intro (tk : Nat))))
  k_with "execs nil" => ((k_here; (with_reducible refine gen_toks ?_); (intro (tk : Nat))))
  trivial
section
theorem lk_list_keys : typeLookup (.type "list") (Str.ofString "keys") = pure none := by rw [typeLookup_type, builtinLookup_eq_fast]; kernel_rfl
theorem lk_list_getattr : typeLookup (.type "list") (Str.ofString "__getattr__") = pure none := by rw [typeLookup_type, builtinLookup_eq_fast]; kernel_rfl
section
variable {prog : Program} {w : World} {A : Around} {E : Value → Shared → Prop} {h : Heap} {g : Array GenState} {d : Drawn} {t : Nat} {os : OsState} {a : Addr} {its : Array Value} {n : Nat}
theorem sub_attr : isSubtype (.type "AttributeError") (.type "AttributeError") = pure true := by rw [isSubtype_type]; kernel_rfl
theorem note_raise {α : Type} {s : Shared} {e : Addr} {o nm t : Value} {Q : α → Shared → Prop} (hh : A.handled = none) (ho : s.heap.get? e = some { cls := .type "AttributeError", data := .fields #[t, .none, .none, .none, .bool false, .none, .int 0 0, .int 0 0] })
    (h : ∀ h', Heap.SameBut e s.heap h' → (∃ oe, h'.get? e = some oe ∧ oe.cls = .type "AttributeError") → E (.ref e) { s with heap := h' }) :
    wpAny (model prog w) A (do noteAttr (.ref e) o nm; (raiseNew (.ref e) : Sem α)) Q E s := by
  have hT : s.TypeIs (.ref e) "AttributeError" := ⟨_, ho, rfl⟩
  refine wpAny_bind ?_
  unfold noteAttr lacksNameAndObj
  dsimp only
  refine wpAny_bind ?_
  refine wpAny_bind (wpAny_isInstance (T := "AttributeError") (b := true) hT sub_attr ?_)
  refine wpAny_ite_split (fun hab => absurd hab (by decide)) (fun _ => ?_)
  refine wpAny_bind (wpAny_load ho ?_)
  dsimp only
  refine wpAny_ite_split (fun hab => absurd hab Bool.false_ne_true) (fun _ => ?_)
  refine wpAny_ite_split (fun hab => absurd hab Bool.false_ne_true) (fun _ => ?_)
  refine wpAny_pure ?_
  refine wpAny_ite_split (fun _ => ?_) (fun hab => absurd rfl hab)
  refine wpAny_bind (wpAny_rule ?_)
  refine wpAny_bind (wpAny_typeOf hT ?_)
  dsimp only
  refine wpAny_layMembers ho rfl ?_
  simp only [raiseNew]
  refine wpAny_bind (wpAny_handled ?_)
  rw [hh]
  refine wpAny_bind (wpAny_pure (wpAny_throw ?_))
  exact h _ (Heap.SameBut.update ..) ⟨_, Heap.get?_update_self _ ho rfl, rfl⟩
theorem attr_raise {α : Type} {s : Shared} {o : Value} {name msg : Str} {Q : α → Shared → Prop} (hh : A.handled = none) (hm : msg.length ≤ sizeLine) (h : ∀ h' e tk, (∀ b o, s.heap.get? b = some o → h'.get? b = some o) → (∃ oe, h'.get? e = some oe ∧ oe.cls = .type "AttributeError") → E (.ref e) { s with heap := h', toks := tk }) :
    wpAny (model prog w) A (raiseAttrError o name msg : Sem α) Q E s := by
  unfold raiseAttrError
  refine wpAny_bind (wpAny_mkStr ?_ hm)
  simp only [newExc, newTuple]
  refine wpAny_bind (wpAny_bind (wpAny_newObj_type ?_ (by size_fits)))
  refine wpAny_bind (m := firstArgMember _ _) (wpAny_of_eq (a := Value.none) (by first | rfl | (simp only [firstArgMember]; rfl)) ?_)
  refine wpAny_newObj_type ?_ (by size_fits)
  refine wpAny_bind (wpAny_mkText ?_)
  refine note_raise (t := .ref s.heap.objs.size) hh (Heap.get?_push_size _ rfl) fun h' hs he => ?_
  refine h h' _ _ (fun b ob hb => ?_) he
  have h1 : b < s.heap.objs.size := Heap.lt_size hb
  exact (hs.2 b (Nat.ne_of_lt (by rw [Heap.size_push]; exact Nat.lt_succ_of_lt h1))).trans (Heap.get?_push_of_some _ (Heap.get?_push_of_some _ hb))
theorem nokeys_entry {tk : Tok} {Q : Fin → Shared → Prop} {P : Value → Shared → Prop} (hx : h.get? a = some (W.listOf its n)) (hh : A.handled = none) (hq : ∀ h' e tk, (∀ b o, h.get? b = some o → h'.get? b = some o) → (∃ oe, h'.get? e = some oe ∧ oe.cls = .type "AttributeError") → P (.ref e) ⟨h', g, d, tk, os⟩) :
    wpAny (model prog w) A (Builtin.«object.__getattribute__» ⟨[.ref a, .str (Str.ofString "keys") tk], []⟩) Q P ⟨h, g, d, t, os⟩ := by
  have hT : (⟨h, g, d, t, os⟩ : Shared).TypeIs (.ref a) "list" := ⟨_, hx, rfl⟩
  have f4 := lk_list_keys
  repeat (any_goals (first | assumption | wp_step))
  exact attr_raise hh (by size_fits) hq
theorem nokeys_call {tk : Tok} {R : Result → Shared → Prop} (hx : h.get? a = some (W.listOf its n)) (hh : A.handled = none) (hq : ∀ h' e tk, (∀ b o, h.get? b = some o → h'.get? b = some o) → (∃ oe, h'.get? e = some oe ∧ oe.cls = .type "AttributeError") → R (.error (.ref e)) ⟨h', g, d, tk, os⟩) :
    codeAny (model prog w) A (.call (.builtin "list.__getattribute__") ⟨[.ref a, .str (Str.ofString "keys") tk], []⟩) R ⟨h, g, d, t, os⟩ :=
  codeAny_call_builtin F.slot_list_getattribute.plain F.entry_list_ga (F.slot_list_getattribute.check _ _ _ _ _ _ _ _ (show (⟨h, g, d, t, os⟩ : Shared).TypeIs (.ref a) "list" from ⟨_, hx, rfl⟩) (F.args_list_getattribute_2 _ _) (nokeys_entry hx hh hq))
theorem nokeys_by {tk : Tok} {Q : Value → Shared → Prop} (hx : h.get? a = some (W.listOf its n)) (hh : A.handled = none) (hq : ∀ h' e tk, (∀ b o, h.get? b = some o → h'.get? b = some o) → (∃ oe, h'.get? e = some oe ∧ oe.cls = .type "AttributeError") → E (.ref e) ⟨h', g, d, tk, os⟩) :
    wpAny (model prog w) A (getAttrBy (.ref a) (.str (Str.ofString "keys") tk) false) Q E ⟨h, g, d, t, os⟩ := by
  have hT : (⟨h, g, d, t, os⟩ : Shared).TypeIs (.ref a) "list" := ⟨_, hx, rfl⟩
  have f2 := F.slot_list_getattribute.lookup
  have f3 := F.slot_list_getattribute.bind (.ref a)
  repeat (any_goals (first | assumption | wp_step))
  refine nokeys_call hx hh fun h' e tk' hk he => ?_
  dsimp only
  have hT2 : (⟨h', g, d, tk', os⟩ : Shared).TypeIs (.ref e) "AttributeError" := he
  have f4 := lk_list_getattr
  unfold getattributeRaised
  refine wpAny_bind (wpAny_isInstance (T := "AttributeError") (b := true) hT2 sub_attr ?_)
  refine wpAny_ite_split (fun _ => ?_) (fun hab => absurd rfl hab)
  refine wpAny_bind (m := hookBehind _ _) (wpAny_of_eq (a := none) f4 ?_)
  unfold hookOrError attributeErrorLeaves
  dsimp only
  refine wpAny_ite_split (fun _ => ?_) (fun hab => absurd rfl hab)
  refine wpAny_bind (wpAny_throw ?_)
  exact hq _ _ _ hk he
theorem nokeys {Q : Option Value → Shared → Prop} (hx : h.get? a = some (W.listOf its n)) (hh : A.handled = none) (hq : ∀ h' tk, (∀ b o, h.get? b = some o → h'.get? b = some o) → Q none ⟨h', g, d, tk, os⟩) :
    wpAny (model prog w) A (getAttr? (.ref a) (Str.ofString "keys")) Q E ⟨h, g, d, t, os⟩ := by
  unfold getAttr? getAttrBy?
  refine wpAny_bind (wpAny_mkText ?_)
  refine wpAny_bind (wpAny_attempt (nokeys_by hx hh fun h' e tk hk he => ?_))
  dsimp only
  refine wpAny_bind (wpAny_isInstance (T := "AttributeError") (b := true) he sub_attr ?_)
  exact wpAny_ite_split (fun _ => wpAny_pure (hq _ _ hk)) (fun hab => absurd rfl hab)
end
theorem entry_upd_loop : entryFor table "dict.update.loop" = some Builtin.«dict.update.loop» := entryFor_of_tree (by kernel_rfl)
theorem plain_upd_loop : plainId "dict.update.loop" = true := by decide +kernel
theorem stored_new {kvs : List (Int × Value)} {k : Int} {v : Value} (h : k ∉ kvs.map (·.1)) : stored kvs k v = kvs ++ [(k, v)] := by
  unfold stored
  rw [if_neg]
  intro hq
  obtain ⟨x, hx, hk⟩ := List.any_eq_true.mp hq
  exact h (List.mem_map.mpr ⟨x, hx, by simpa using hk⟩)
section
variable {prog : Program} {w : World} {A : Around} {E : Value → Shared → Prop} {R : Result → Shared → Prop} {D I l : Addr} {vs : List Value} {kvs : List (Int × Value)}
def PairsAt (h : Heap) (D I : Addr) (vs : List Value) (kvs : List (Int × Value)) : Prop := ∀ (j : Nat) (v : Value), vs[j]? = some v → ShV4P5 (fun p k t x => v = .ref p) (fun p k t x => (@Ne Nat p D)) (fun p k t x => (@Ne Nat p I)) (fun p k t x => h.IsTuple p #[.int k t, x]) (fun p k t x => kvs[j]? = some (k, x))
theorem dict_loop (hh : A.handled = none) (hlI : l ≠ I) (hDI : D ≠ I) (hDl : D ≠ l) (hlen : vs.length = kvs.length) (hz : kvs.length ≤ 1000) (hnd : (kvs.map (·.1)).Nodup) :
    ∀ (k i : Nat) (s : Shared), vs.length - i = k → i ≤ vs.length → s.heap.IsListIter I l i → s.heap.IsList l vs.toArray → s.heap.DictOf (intKind prog w) D (kvs.take i) → PairsAt s.heap D I vs kvs →
      (∀ h' tk, h'.DictOf (intKind prog w) D kvs → (∀ b o, b ≠ D → b ≠ I → s.heap.get? b = some o → h'.get? b = some o) → R (.ok (.ret .none)) { s with heap := h', toks := tk }) →
      codeAny (model prog w) A (.builtin "dict.update.loop" ⟨[.ref D, .ref I, .int (i : Int) 0, .none], []⟩) R s := by
  have W := Walks.list (prog := prog) (w := w) (A := A.in1) hh I l hlI vs.toArray
  have hsz : vs.toArray.size = vs.length := by simp
  rw [hsz] at W
  intro k
  induction k with
  | zero =>
    intro i s hk hi hit hl hd hp hR
    obtain rfl : i = vs.length := by omega
    refine codeAny_builtin entry_upd_loop ?_
    rw [Around.under_plainId plain_upd_loop _]
    show wpAny _ A.in1 (pyNext (.ref I) >>= _) _ _ s
    refine wpAny_bind (W.done s _ _ ⟨hit, hl⟩ fun h' tk hk' => ?_)
    show wpAny _ A.in1 (Builtin.Dict.addKeywords D [] >>= _) _ _ _
    refine wpAny_bind (wpAny_pure (wpAny_pure (hR h' tk ?_ fun b o hb1 hb2 e => hk' b o (by rw [List.mem_singleton]; exact hb2) e)))
    rw [hlen, List.take_length] at hd
    exact let ⟨o, es, ep, ho, r⟩ := hd; ⟨o, es, ep, hk' D o (by rw [List.mem_singleton]; exact hDI) ho, r⟩
  | succ k ih =>
    intro i s hk hi hit hl hd hp hR
    have hlt : i < vs.length := by omega
    refine codeAny_builtin entry_upd_loop ?_
    rw [Around.under_plainId plain_upd_loop _]
    show wpAny _ A.in1 (pyNext (.ref I) >>= _) _ _ s
    refine wpAny_bind (W.item i s _ _ hlt ⟨hit, hl⟩ fun v h' tk hv hst hk' => ?_)
    obtain ⟨p, key, t, x, rfl, hpD, hpI, hT, hkv⟩ := hp i v (by simpa using hv)
    have keep : ∀ b o, b ≠ I → s.heap.get? b = some o → h'.get? b = some o := fun b o hb e => hk' b o (by rw [List.mem_singleton]; exact hb) e
    have hT' : h'.IsTuple p #[.int key t, x] := let ⟨o, ho, r⟩ := hT; ⟨o, keep p o hpI ho, r⟩
    have hd' : h'.DictOf (intKind prog w) D (kvs.take i) := let ⟨o, es, ep, ho, r⟩ := hd; ⟨o, es, ep, keep D o hDI ho, r⟩
    obtain ⟨oT, hoT, hcT, nT, hdT⟩ := hT'
    have hty : Shared.TypeIs { s with heap := h', toks := tk } (.ref p) "tuple" := ⟨oT, hoT, hcT⟩
    show wpAny _ A.in1 (holding [Value.ref p] _ >>= _) _ _ _
    refine wpAny_bind (wpAny_holding ?_)
    refine wpAny_bind (wpAny_tryCatch ?_)
    unfold Builtin.Dict.pairItems
    refine wpAny_bind (wpAny_typeOf hty ?_)
    refine wpAny_ite_split (fun _ => ?_) (fun hab => absurd (by decide) hab)
    unfold seqItems?
    refine wpAny_bind (wpAny_bind (wpAny_load hoT ?_))
    rw [hdT]
    refine wpAny_pure ?_
    refine wpAny_pure ?_
    dsimp only [Option.getD]
    refine wpAny_holding ?_
    have hnot : key ∉ (kvs.take i).map (·.1) := by
      intro hmem
      have hi2 : i < kvs.length := by omega
      have e0 : kvs[i] = (key, x) := (List.getElem?_eq_some_iff.mp hkv).2
      have e1 : kvs.map (·.1) = (kvs.take i).map (·.1) ++ (kvs.drop i).map (·.1) := by rw [← List.map_append, List.take_append_drop]
      rw [e1, List.drop_eq_getElem_cons hi2, e0] at hnd
      exact (List.nodup_append.mp hnd).2.2 _ hmem _ (by simp) rfl
    refine wpAny_dictSet_pairs (s := { s with heap := h', toks := tk }) (intKind_is _ _ key t) hd' (fun h₂ hd₂ hs₂ => ?_) (by rw [sizeLine_eq]; have := List.length_take_le' i kvs; omega)
    rw [stored_new hnot] at hd₂
    have htk : kvs.take (i + 1) = kvs.take i ++ [(key, x)] := by rw [List.take_add_one, hkv]; rfl
    rw [← htk] at hd₂
    have ei : (((i : Int) + 1) : Int) = ((i + 1 : Nat) : Int) := by omega
    refine wpAny_pure ⟨plainId_quiet plain_upd_loop _, ?_⟩
    show codeAny _ _ (.builtin "dict.update.loop" ⟨[.ref D, .ref I, .int ((i : Int) + 1) 0, .none], []⟩) _ _
    rw [ei]
    have keep2 : ∀ b o, b ≠ D → h'.get? b = some o → h₂.get? b = some o := fun b o hb e => (hs₂.2 b hb).trans e
    refine ih (i + 1) _ (by omega) hlt ?_ ?_ hd₂ ?_ ?_
    · exact let ⟨o, ho, r⟩ := hst.1; ⟨o, keep2 I o (Ne.symm hDI) ho, r⟩
    · exact let ⟨o, ho, r⟩ := hst.2; ⟨o, keep2 l o (Ne.symm hDl) ho, r⟩
    · intro j v hj
      obtain ⟨p', k', t', x', e1, e2, e3, e4, e5⟩ := hp j v hj
      exact ⟨p', k', t', x', e1, e2, e3, let ⟨o, ho, r⟩ := e4; ⟨o, keep2 p' o e2 (keep p' o e3 ho), r⟩, e5⟩
    · intro h₃ tk₃ hd₃ hk₃
      exact hR h₃ tk₃ hd₃ fun b o hb1 hb2 e => hk₃ b o hb1 hb2 (keep2 b o hb1 (keep b o hb2 e))
theorem dict_pairs {s : Shared} {h₀ : Heap} {L : Addr} {m : Str → Option Value} {news : Led} {n : Nat} {Q : Value → Shared → Prop} (hh : A.handled = none) (F : Fr h₀ L s.heap m) (N : News h₀ L s.heap news) (hm : (l, listOf (List.toArray vs) n) ∈ news)
    (hall : All2 (fun (v : Value) (kv : Int × Value) => ShV3P2 (fun p t c => v = .ref p) (fun p t c => (p, tupOf [.int kv.1 t, kv.2] c) ∈ news)) vs kvs) (hz : kvs.length ≤ 1000) (hnd : (kvs.map (·.1)).Nodup) (hbig : sysModules < h₀.objs.size)
    (h : ∀ D h' tk o, Fr h₀ L h' m → News h₀ L h' ((D, o) :: news) → o.IsDictOf (intKind prog w) kvs → (D == sysModules) = false → (∀ p ∈ news, @LT.lt Nat _ p.1 D) → Q (.ref D) { s with heap := h', toks := tk }) :
    wpAny (model prog w) A (call (.type "dict") [.ref l]) Q E s := by
  refine callType_codes (Q₁ := fun obj s₁ => obj = .ref s.heap.objs.size ∧ s₁ = { s with heap := s.heap.push { cls := .type "dict", data := .dict #[] } }) PySem.F.kt_called_dict (PySem.F.kt_typeCall_dict_1 _) PySem.F.entry_dict_init (kt_code_dict_new _ ⟨rfl, rfl⟩) ?_
  rintro obj s₁ ⟨rfl, rfl⟩
  have hnew : (s.heap.push { cls := .type "dict", data := .dict #[] }).DictOf (intKind prog w) s.heap.objs.size [] := Heap.DictOf.new s.heap
  refine ⟨hnew.typeIs, PySem.F.args_dict_init_2 _ _, ?_⟩
  have hlo : (s.heap.push { cls := .type "dict", data := .dict #[] }).get? l = some (listOf (List.toArray vs) n) := Heap.get?_push_of_some _ (N _ hm).1
  unfold Builtin.«dict.__init__»
  refine wpAny_bind ?_
  unfold Builtin.Dict.selfAndRest
  refine wpAny_bind (wpAny_notOrdered_dict hnew.typeIs ?_)
  show wpAny _ _ (pure (s.heap.objs.size, [Value.ref l])) _ _ _
  refine wpAny_pure ?_
  show wpAny _ _ (Builtin.Dict.updateFrom "dict.__init__" s.heap.objs.size (.ref l) [] .none) _ _ _
  unfold Builtin.Dict.updateFrom
  refine wpAny_bind (wpAny_typeOf (T := "list") (show Shared.TypeIs { s with heap := s.heap.push { cls := .type "dict", data := .dict #[] } } (.ref l) "list" from ⟨_, hlo, rfl⟩) ?_)
  refine wpAny_ite_split (fun _ => ?_) (fun hab => absurd (by decide) hab)
  refine wpAny_bind (nokeys hlo hh fun h' tk hk => ?_)
  refine wpAny_ite_split (fun _ => ?_) (fun hab => absurd rfl hab)
  refine wpAny_bind (wpAny_rule ?_)
  have hl' : h'.IsList l (List.toArray vs) := ⟨_, hk _ _ hlo, rfl, n, rfl⟩
  refine wpAny_bind (wpAny_pyIter_list hl' ?_)
  have hDs : (s.heap.push { cls := .type "dict", data := .dict #[] }).get? s.heap.objs.size = some { cls := .type "dict", data := .dict #[] } := Heap.get?_push_size _ rfl
  have hDI : s.heap.objs.size < h'.objs.size := Heap.lt_size (hk _ _ hDs)
  have hlD : l < s.heap.objs.size := Heap.lt_size (N _ hm).1
  have keep1 : ∀ b o, s.heap.get? b = some o → h'.get? b = some o := fun b o e => hk _ _ (Heap.get?_push_of_some _ e)
  refine wpAny_pure ⟨plainId_quiet plain_upd_loop _, ?_⟩
  refine dict_loop (A := A.in1) (I := h'.objs.size) (l := l) (vs := vs) (kvs := kvs) hh (Nat.ne_of_lt (Nat.lt_trans hlD hDI)) (Nat.ne_of_lt hDI) (Nat.ne_of_gt hlD) hall.length hz hnd vs.length 0 _ (by omega) (Nat.zero_le _) ⟨_, Heap.get?_push_size _ rfl, rfl, rfl⟩ (hl'.push _) ?_ ?_ ?_
  · rw [List.take_zero]
    exact let ⟨o, es, ep, ho, r⟩ := hnew; ⟨o, es, ep, Heap.get?_push_of_some _ (hk _ _ ho), r⟩
  · intro j v hv
    obtain ⟨kv, e1, p, t, c, rfl, hp⟩ := hall.getL j v hv
    have hpl : p < s.heap.objs.size := Heap.lt_size (N _ hp).1
    exact ⟨p, kv.1, t, kv.2, rfl, Nat.ne_of_lt hpl, Nat.ne_of_lt (Nat.lt_trans hpl hDI), ⟨_, Heap.get?_push_of_some _ (keep1 _ _ (N _ hp).1), rfl, c, rfl⟩, e1⟩
  · intro h₂ tk₂ hd hk2
    have keep : ∀ b o, s.heap.get? b = some o → h₂.get? b = some o := fun b o e => hk2 b o (Nat.ne_of_lt (Heap.lt_size e)) (Nat.ne_of_lt (Nat.lt_trans (Heap.lt_size e) hDI)) (Heap.get?_push_of_some _ (keep1 _ _ e))
    obtain ⟨o, ho, hdo⟩ := Heap.dictOf_iff.mp hd
    obtain ⟨oL, _, _, hL, _⟩ := F.ns
    refine ⟨rfl, h _ h₂ tk₂ o (F.keeps keep) (fun p hp => ?_) hdo (F.notModules hbig) (fun p hp => Heap.lt_size (N p hp).1)⟩
    rcases List.mem_cons.mp hp with rfl | hp
    · refine ⟨ho, Nat.ne_of_gt (Heap.lt_size hL), ?_⟩
      cases hq : h₀.get? s.heap.objs.size with
      | none => rfl
      | some o' => exact absurd (Heap.lt_size (F.keep _ _ hq)) (Nat.lt_irrefl _)
    · exact ⟨keep _ _ (N p hp).1, (N p hp).2⟩
end
theorem nxt_step {rows : List (List Int)} {st : Int} {c : Nat} (h : 0 ≤ st) : nxt rows st (numOf c) = stepOf rows st c := by
  unfold nxt stepOf
  rw [if_pos h]
theorem rowOf_nil {cts : List (Int × Bool × Int)} {at_ len : Int} : rowOf cts at_ [] len = [] := rfl
theorem due_dead {rows tags : List (List Int)} {cts : List (Int × Bool × Int)} {at_ : Int} : ∀ (cs : List Nat) (len : Int) (f : List (Int × Int)), dueGo rows tags cts at_ cs (-1) len f = f
  | [], _, _ => rfl
  | c :: cs, len, f => by
    rw [dueGo]
    have e1 : stepOf rows (-1) c = -1 := if_neg (by decide)
    have e2 : tagsOf tags (-1) = [] := if_neg (by decide)
    rw [e1, e2, rowOf_nil, List.nil_append]
    exact due_dead cs _ f
theorem candAll_cons {cts : List (Int × Bool × Int)} {at_ : Int} {p : Int × List Int} {es : List (Int × List Int)} : candAll cts at_ (p :: es) = candRow cts at_ p ++ candAll cts at_ es := List.flatMap_cons
theorem due_ends {rows tags : List (List Int)} (H : AutoOk rows tags) {cts : List (Int × Bool × Int)} {at_ : Int} : ∀ (cs : List Nat) (st len : Int) (es : List (Int × List Int)), 0 ≤ st → st < rows.length →
    dueGo rows tags cts at_ cs st len (candAll cts at_ es.reverse) = candAll cts at_ (endsGo rows tags (cs.map numOf) st (at_ + len) es).reverse
  | [], _, _, _, _, _ => rfl
  | c :: cs, st, len, es, h0, h1 => by
    rw [dueGo, List.map_cons, endsGo, nxt_step h0]
    obtain ⟨a1, a2⟩ := stepOf_in H (c := c) h1
    by_cases hd : stepOf rows st c = -1
    · rw [if_pos hd, hd]
      have e2 : tagsOf tags (-1) = [] := if_neg (by decide)
      rw [e2, rowOf_nil, List.nil_append, due_dead]
    · rw [if_neg hd]
      have b0 : 0 ≤ stepOf rows st c := by omega
      have e3 : tagsOf tags (stepOf rows st c) = tags.getD (stepOf rows st c).toNat [] := if_pos b0
      rw [e3]
      have e5 : at_ + len + 1 = at_ + (len + 1) := by omega
      rw [e5]
      by_cases ht : tags.getD (stepOf rows st c).toNat [] = []
      · rw [if_pos ht, ht, rowOf_nil, List.nil_append]
        exact due_ends H cs _ _ es b0 a2
      · rw [if_neg ht]
        have e4 : rowOf cts at_ (tags.getD (stepOf rows st c).toNat []) (len + 1) ++ candAll cts at_ es.reverse = candAll cts at_ (es ++ [(at_ + (len + 1), tags.getD (stepOf rows st c).toNat [])]).reverse := by
          rw [List.reverse_append, List.reverse_singleton, List.singleton_append, candAll_cons]
          congr 1
          unfold candRow
          have e6 : at_ + (len + 1) - at_ = len + 1 := by omega
          rw [e6]
        rw [e4]
        exact due_ends H cs _ _ _ b0 a2
theorem due_law {rows tags : List (List Int)} (H : AutoOk rows tags) {cts : List (Int × Bool × Int)} {at_ : Nat} {codes : List Nat} : dueOf rows tags cts at_ codes = candAll cts at_ (endsOf rows tags at_ (codes.map numOf)) := by
  unfold dueOf endsOf
  have h := due_ends H (cts := cts) (at_ := (at_ : Int)) (codes.drop at_) 0 0 [] (by omega) (by have := H.some_; omega)
  rw [List.map_drop, Int.add_zero] at h
  exact h
def dataOf (f : List (Int × Int)) : PyData := .list (f.map fun p => .tuple [.int p.1, .int p.2])
theorem dataOf_eqv (f : List (Int × Int)) : PyData.eqv (dataOf f) (dataOf f) = true := by
  unfold dataOf
  rw [PyData.eqv]
  induction f with
  | nil => rfl
  | cons p r ih =>
    rw [List.map_cons, PyData.eqvAll, ih]
    simp [PyData.eqv, PyData.eqvAll]
theorem dataOf_shaped (f : List (Int × Int)) : SeqAt.shaped (dataOf f) = true := by
  unfold dataOf SeqAt.shaped
  have h2 : PyData.depthAll (f.map fun p => .tuple [.int p.1, .int p.2]) ≤ 3 := by
    induction f with
    | nil => decide
    | cons p r ih =>
      rw [List.map_cons, PyData.depthAll]
      refine Nat.max_le.mpr ⟨?_, ih⟩
      simp [PyData.depth, PyData.depthAll]
  have h1 : PyData.canLayAll0 (f.map fun p => .tuple [.int p.1, .int p.2]) = true := by
    clear h2
    induction f with
    | nil => rfl
    | cons p r ih =>
      rw [List.map_cons, PyData.canLayAll0, ih]
      rfl
  rw [PyData.canLay0, h1, PyData.depth]
  simp
  omega
theorem found_reads {h₀ h : Heap} {L : Addr} {l : Led} {v : Value} {f : List (Int × Int)} (N : News h₀ L h l) (F : FoundL l v f) : ∃ as, Reads h v (dataOf f) as := by
  obtain ⟨a, vs, n, rfl, hm, hall⟩ := F
  have key : ∃ as, ReadsAll h vs (f.map fun p => .tuple [.int p.1, .int p.2]) as := by
    clear hm
    induction hall with
    | nil => exact ⟨[], .nil⟩
    | cons hp _ ih =>
      obtain ⟨p, t1, t2, m, rfl, hm⟩ := hp
      obtain ⟨as, ih⟩ := ih
      exact ⟨_, .cons (reads_tuple_at (N _ hm).1 rfl rfl (.cons (.int _ _) (.cons (.int _ _) .nil))) ih⟩
  obtain ⟨as, key⟩ := key
  exact ⟨_, reads_list_at (N _ hm).1 rfl rfl (by simpa using key)⟩
theorem ne_found {prog : Program} {w : World} {A : Around} {E : Value → Shared → Prop} {s : Shared} {Q : Value → Shared → Prop} {h₀ : Heap} {L : Addr} {l la lb : Led} {a b : Value} {f : List (Int × Int)} (N : News h₀ L s.heap l) (ha : FoundL la a f) (hb : FoundL lb b f) (sa : ∀ p ∈ la, p ∈ l) (sb : ∀ p ∈ lb, p ∈ l) (hu : A.units + 64 < cLine)
    (h : Q (.bool false) s) : wpAny (model prog w) A (compareOp .NotEq a b) Q E s := by
  obtain ⟨_, ra⟩ := found_reads N (ha.mono sa)
  obtain ⟨_, rb⟩ := found_reads N (hb.mono sb)
  refine ne_dataH ra rb (dataOf_shaped f) (dataOf_shaped f) hu ?_
  rw [dataOf_eqv]
  exact h
end
theorem lines19 : True := by
  w_top off
  k_with_none
  k_with "k:k1" => ((first | (k_unfold; (try dsimp only)) | (k_end; wrow_close) | walk1 | (dsimp only; walk1) | (leave1; walk_say "STEP leave1"; try dsimp only) | fail "no step"))
  k_with "k:mem" => (first | exact List.mem_cons_self | ktr_member | (refine List.mem_cons_of_mem _ ?_; wtm_at "k:mem") | (refine List.mem_append_left _ ?_; wtm_at "k:mem") | (refine List.mem_append_right _ ?_; wtm_at "k:mem"))
  k_with "k:sub" => (first | with_reducible exact sub_refl | with_reducible assumption | with_reducible exact sub_nil | (with_reducible refine sub_of_cons ?_ ?_; (focus (wtm_at "k:mem")); wtm_at "k:sub") | (with_reducible refine sub_of_app ?_ ?_; (focus (wtm_at "k:sub")); wtm_at "k:sub") | (with_reducible refine sub_cons ?_; wtm_at "k:sub") | (with_reducible refine sub_appl ?_; wtm_at "k:sub") | (with_reducible refine sub_appr ?_; wtm_at "k:sub"))
  k_with "k:front" => (first | exact Front.head | exact Front.tail (by wtm_at "k:front") | exact Front.app (by wtm_at "k:front"))
  k_with "eval Name" => ((k_here; (fail_if_success (fail_if_success ((with_reducible refine loc_first ?_ ?_); (focus (k_dflt rfl))))); k_dflt (refine' nameX_L (by k_asm) (by first | rfl | assumption) ?_ (by rfl) (by rfl); k_whole)))
  k_with "eval Name" => ((k_here; (with_reducible show wpAny _ _ (eval (Expr.Name _ _) (envX _ _ _ _ _ _)) _ _ _); k_dflt (first
  | (refine' nameX_L (by k_asm) (by first | rfl | assumption) ?_ (by rfl) (by rfl); k_whole)
  | (refine' nameX_F (by k_asm) (by rfl) (by k_mem) (by k_asm) ?_ (by rfl) (by rfl); k_whole)
  | (refine' nameX_C (by k_asm) (by rfl) (by k_mem) (by k_asm) ?_ (by rfl) (by rfl); k_whole)
  | (refine' nameX_K (by k_asm) (by k_asm) (by k_asm) (by k_is) ?_ (by rfl) (by rfl); k_whole)
  | (refine' nameX_B (by k_asm) (by k_asm) (by k_asm) (by k_is) (by boot_fast) (by decide) ?_ (by rfl) (by rfl); k_whole))))
  k_with "k:all" => (first | with_reducible assumption | exact List.forall_mem_nil _ | (with_reducible refine List.forall_mem_cons.mpr ⟨?_, ?_⟩; (focus k_ne); wtm_at "k:all") | (with_reducible refine List.forall_mem_append.mpr ⟨?_, ?_⟩; (focus (wtm_at "k:all")); wtm_at "k:all") | exact Ap.ne (by with_reducible assumption) (by wtm_at "k:mem") | exact lts_ne (by with_reducible assumption) (by omega) | exact gts_ne (by with_reducible assumption) (by omega) | exact lts_sub_ne (by with_reducible assumption) (by wtm_at "k:sub"))
  k_with "callWith ref" => ((k_here; k_dflt (refine' callWith_F (TakeIn.fnAt (by k_asm) (by assumption) (by wtm_at "k:sub")) ?_)))
  k_with "And" => (((with_reducible show FnAt _ _ ∧ _); refine' ⟨TakeIn.fnAt (by k_asm) (by assumption) (by wtm_at "k:sub"), ?_⟩; try dsimp only [List.nil_append, List.cons_append]))
  k_with "call ref" => ((k_here; k_dflt (refine' take_call (by assumption) (by k_asm) (by k_asm) (by k_asm) (by k_asm) (by k_asm) (by wtm_at "k:front") (by wtm_at "k:sub") (by wtm_at "k:all") (by first | assumption | rfl) (by assumption) (by omega) (by omega) (by omega) (by omega) (by omega) (by omega) ?_); intro _ _ _ _ _ _ _ _ _; (try k_sweep)))
  k_with "k:haltX" => ((with_reducible show wpAny _ _ (exec (Stmt.Assign _ (Expr.ListComp _ _ _ _) _) _) _ _ _))
  k_with "k:haltX" => ((with_reducible show wpAny _ _ (exec (Stmt.For _ _ _ _ _) _) _ _ _))
  k_with "k:haltE" => ((with_reducible show wpAny _ _ (eval (Expr.ListComp _ _ _ _) _) _ _ _))
  k_with "k:halt" => (wtm_at "k:haltO")
  k_with "k:halt" => (wtm_at "k:haltE")
  k_with "k:halt" => (wtm_at "k:haltX")
  k_with "k:go" => ((try k_fold); repeat' ((fail_if_success (wtm_at "k:halt")); wtm_at "k:k1"))
  k_with "k:haltO" => ((with_reducible show LCg.CompEnd _ _ _ _ _ _ _ _ _ _ _ _ _ _))
  k_with "k:haltO" => ((with_reducible show TurnEnd _ _ _ _ _ _ _ _ _))
  k_with "call type:tuple" => ((k_here; (with_reducible show wpAny _ _ (call (Value.type _) [Value.ref _]) _ _ _); k_dflt (refine' kde_tupleOf (by k_asm) (by k_asm) (by exact News.isList (by k_asm) (by k_mem)) (by ((have hq9 := IntsAre.length (by assumption)); (simp only [List.size_toArray]); omega)) (by rfl) ?_; k_whole); intro _ _ _ _ l1; (try k_lt l1); (try k_sweep)); (try (revert l1; intro _)))
  k_with "k:haltE" => ((with_reducible show wpAny _ _ (call (Value.builtin "list.append") _) _ _ _))
  k_with "subscriptTail Attribute" => ((k_here; k_dflt (refine kba_turn (value' := PySem.Expr.Name (PySem.Str.ofString "_") ⟨0, 0, 0, 0⟩) (fun _ => rfl) ?_)))
  k_with "subscriptTail Subscript" => ((k_here; k_dflt (refine kba_turn (value' := PySem.Expr.Name (PySem.Str.ofString "_") ⟨0, 0, 0, 0⟩) (fun _ => rfl) ?_)))
  k_with "subscriptTail" => (wtm_at "k:fsub")
  k_with "subscriptTail Name Name ref int" => (wtm_at "k:fsub")
  k_with "subscriptTail Name Name str int" => (wtm_at "k:fsub")
  k_with "subscriptTail Name Name ref str" => (wtm_at "k:fsub")
  k_with "subscriptTail Name Constant ref int" => (wtm_at "k:fsub")
  k_with "subscriptTail Name Constant str int" => (wtm_at "k:fsub")
  k_with "subscriptTail Name Constant ref str" => (wtm_at "k:fsub")
  k_with "subscriptTail Name BinOp ref int" => (wtm_at "k:fsub")
  k_with "subscriptTail Name BinOp str int" => (wtm_at "k:fsub")
  k_with "subscriptTail Name BinOp ref str" => (wtm_at "k:fsub")
  k_with "execs cons" => ((k_here; (with_reducible refine gen_toks ?_); (intro (tk : Nat))))
  k_with "execs nil" => ((k_here; (with_reducible refine gen_toks ?_); (intro (tk : Nat))))
  trivial
section
theorem charA : (⟨#[97]⟩ : Str) = Str.ofString "a" := by decide +kernel
theorem charB : (⟨#[98]⟩ : Str) = Str.ofString "b" := by decide +kernel
theorem OneL.mono {w : World} {l l' : Led} {v : Value} {c : Nat} (hs : ∀ p ∈ l, p ∈ l') (h : OneL w l v c) : OneL w l' v c := by
  obtain ⟨x, dx, sp, p, t0, t1, t2, e, h1, h2, h3, h4⟩ := h
  exact ⟨x, dx, sp, p, t0, t1, t2, e, hs _ h1, hs _ h2, hs _ h3, hs _ h4⟩
theorem chars_call {w : World} {dp un : Nat} {gd : Option (List Code)} {cn : Str} {cs : Scope} {a : Addr} {ccd : Value} {cl : List (Str × Addr)} {outer : List Env} {A₀ : Around} {base h₀ : Heap} {L : Addr} {m mg mb : Str → Option Value} {mean : ExcName → Option Value} {tP : Program} {tL : List Str}
    {news : List (Addr × Obj)} {s : Shared} {Q E : Value → Shared → Prop} {t : Tok} {c : Nat} {y : Str}
    (B : Below A₀ base outer h₀) (F : Fr h₀ L s.heap m) (X : (hd.heap_1 w.params).In h₀) (N : News h₀ L s.heap news) (T : Top tP tL mean mg mb h₀) (hk : cs.kind = .function)
    (hdp : dp + 150 < recursionLimit) (hun : un + 300 < cLine) (hy : (⟨#[c]⟩ : Str) = y) (hc : c ≤ 120)
    (ret : ∀ x tl h' tks, Fr h₀ L h' m → News h₀ L h' (tl ++ news) → OneL w tl (.ref x) c → Q (.ref x) { s with heap := h', toks := tks }) :
    wpAny (model prg w) (ktrTop dp un gd cn cs L a ccd cl outer) (call (.ref 472) [.str y t]) Q E s := by
  subst hy
  exact wpAny_call (chars_of B F X N T hk hdp hun hc fun x dx sp p t0 t1 t2 h' tks F' N' => ret x [(x, _), (dx, _), (sp, _), (p, _)] h' tks F' N' ⟨x, dx, sp, p, t0, t1, t2, rfl, by wtm_at "k:mem", by wtm_at "k:mem", by wtm_at "k:mem", by wtm_at "k:mem"⟩)
theorem classes_call {w : World} {dp un : Nat} {gd : Option (List Code)} {cn : Str} {cs : Scope} {a : Addr} {ccd : Value} {cl : List (Str × Addr)} {outer : List Env} {A₀ : Around} {base h₀ : Heap} {L : Addr} {m mg mb : Str → Option Value} {mean : ExcName → Option Value} {tP : Program} {tL : List Str}
    {news : List (Addr × Obj)} {s : Shared} {Q E : Value → Shared → Prop} {la : Addr} {va vb : Value} {nl : Nat}
    (B : Below A₀ base outer h₀) (F : Fr h₀ L s.heap m) (X : (hd.heap_1 w.params).In h₀) (N : News h₀ L s.heap news) (T : Top tP tL mean mg mb h₀) (hk : cs.kind = .function)
    (hdp : dp + 200 < recursionLimit) (hun : un + 400 < cLine) (hl : (la, listOf (List.toArray [va, vb]) nl) ∈ news) (Ha : OneL w news va 97) (Hb : OneL w news vb 98)
    (ret : ∀ x tl h' tks, Fr h₀ L h' m → News h₀ L h' (tl ++ news) → ClsL w tl (.ref x) → Q (.ref x) { s with heap := h', toks := tks }) :
    wpAny (model prg w) (ktrTop dp un gd cn cs L a ccd cl outer) (call (.ref 665) [.ref la]) Q E s :=
  make_at (fI := 607) F X N (by k_is) (by k_is) (by k_is) fun x dx h' F' N' l1 l2 => classes_init B F' X N' T hk (by omega) (by omega) hl Ha Hb l1 l2 fun h'' tks tl F'' N'' C => ⟨rfl, ret x tl h'' tks F'' N'' C⟩
theorem tables_call {w : World} {dp un : Nat} {gd : Option (List Code)} {cn : Str} {cs : Scope} {a : Addr} {ccd : Value} {cl : List (Str × Addr)} {outer : List Env} {A₀ : Around} {base h₀ : Heap} {L : Addr} {m mg mb : Str → Option Value} {mean : ExcName → Option Value} {tP : Program} {tL : List Str}
    {news : List (Addr × Obj)} {s : Shared} {Q E : Value → Shared → Prop} {rl ed : Addr} {rvs : List Value} {rn : Nat} {bs : List Bool} {v1 v2 hv cv : Value} {eo : Obj}
    (B : Below A₀ base outer h₀) (F : Fr h₀ L s.heap m) (X : (hd.heap_1 w.params).In h₀) (N : News h₀ L s.heap news) (T : Top tP tL mean mg mb h₀) (hk : cs.kind = .function)
    (hdp : dp + 200 < recursionLimit) (hun : un + 500 < cLine) (hm : (rl, listOf (List.toArray rvs) rn) ∈ news) (hall : All2 (RuleL w news) rvs bs) (he : (ed, eo) ∈ news) (hed : eo.IsDictOf (intKind prg w) []) (hlo : (ed == sysModules) = false)
    (ret : ∀ x tl h' tks, Fr h₀ L h' m → News h₀ L h' (tl ++ news) → TabF w tl x v1 v2 (.bool true) cv hv (bs.any id) → Q (.ref x) { s with heap := h', toks := tks }) :
    wpAny (model prg w) (ktrTop dp un gd cn cs L a ccd cl outer) (call (.ref 224) [v1, v2, hv, .ref rl, cv, .ref ed, .bool true]) Q E s :=
  make_at (fI := 193) F X N (by k_is) (by k_is) (by k_is) fun x dx h' F' N' l1 l2 => tables_init B F' X N' T hk (by omega) (by omega) hm hall he ⟨[], hed, .nil⟩ hlo l1 l2 fun h'' tks tl F'' N'' C => ⟨rfl, ret x tl h'' tks F'' N'' C⟩
theorem scan_call {w : World} {dp un : Nat} {gd : Option (List Code)} {cn : Str} {cs : Scope} {a : Addr} {ccd : Value} {cl : List (Str × Addr)} {outer : List Env} {A₀ : Around} {base h₀ : Heap} {L : Addr} {m mg mb : Str → Option Value} {mean : ExcName → Option Value} {tP : Program} {tL : List Str}
    {news : List (Addr × Obj)} {s : Shared} {Q E : Value → Shared → Prop} {tb cx : Addr} {n2 : Addr} {hv cv : Value} {tx : Str} {t : Tok} {rej : Bool}
    (B : Below A₀ base outer h₀) (F : Fr h₀ L s.heap m) (X : (hd.heap_1 w.params).In h₀) (N : News h₀ L s.heap news) (T : Top tP tL mean mg mb h₀) (hk : cs.kind = .function)
    (hdp : dp + 250 < recursionLimit) (hun : un + 600 < cLine) (I : TabF w news tb (.ref cx) (.ref n2) (.bool true) cv hv rej) (C : ClsL w news (.ref cx)) (hx : ∀ (i c : Nat), tx.cps[i]? = some c → Abn c) (hx6 : tx.cps.size ≤ 6)
    (ret : ∀ x nb nvs nc pl tl9 tl h' tks, Fr h₀ L h' m → News h₀ L h' (tl ++ news) → ScanL w tl x tx tb nb pl tl9 → (nb, listOf (List.toArray nvs) nc) ∈ tl → (tl9, listOf (List.toArray []) 0) ∈ tl → IntsAre nvs (tx.cps.toList.map numOf) → Q (.ref x) { s with heap := h', toks := tks }) :
    wpAny (model prg w) (ktrTop dp un gd cn cs L a ccd cl outer) (call (.ref 421) [.ref tb, .str tx t]) Q E s :=
  make_at (fI := 397) F X N (by k_is) (by k_is) (by k_is) fun x dx h' F' N' l1 l2 => scan_init B F' X N' T hk (by omega) (by omega) I C hx hx6 l1 l2 fun h'' tks nb nvs nc pl tl9 tl F'' N'' S e1 e2 e3 => ⟨rfl, ret x nb nvs nc pl tl9 tl h'' tks F'' N'' S e1 e2 e3⟩
end
theorem lines20 : True := by
  w_top off
  k_with_none
  k_with "k:k1" => ((first | (k_unfold; (try dsimp only)) | (k_end; wrow_close) | walk1 | (dsimp only; walk1) | (leave1; walk_say "STEP leave1"; try dsimp only) | fail "no step"))
  k_with "k:mem" => (first | exact List.mem_cons_self | ktr_member | (refine List.mem_cons_of_mem _ ?_; wtm_at "k:mem") | (refine List.mem_append_left _ ?_; wtm_at "k:mem") | (refine List.mem_append_right _ ?_; wtm_at "k:mem"))
  k_with "k:sub" => (first | with_reducible exact sub_refl | with_reducible assumption | with_reducible exact sub_nil | (with_reducible refine sub_of_cons ?_ ?_; (focus (wtm_at "k:mem")); wtm_at "k:sub") | (with_reducible refine sub_of_app ?_ ?_; (focus (wtm_at "k:sub")); wtm_at "k:sub") | (with_reducible refine sub_cons ?_; wtm_at "k:sub") | (with_reducible refine sub_appl ?_; wtm_at "k:sub") | (with_reducible refine sub_appr ?_; wtm_at "k:sub"))
  k_with "k:front" => (first | exact Front.head | exact Front.tail (by wtm_at "k:front") | exact Front.app (by wtm_at "k:front"))
  k_with "eval Name" => ((k_here; (fail_if_success (fail_if_success ((with_reducible refine loc_first ?_ ?_); (focus (k_dflt rfl))))); k_dflt (refine' nameX_L (by k_asm) (by first | rfl | assumption) ?_ (by rfl) (by rfl); k_whole)))
  k_with "eval Name" => ((k_here; (with_reducible show wpAny _ _ (eval (Expr.Name _ _) (envX _ _ _ _ _ _)) _ _ _); k_dflt (first
  | (refine' nameX_L (by k_asm) (by first | rfl | assumption) ?_ (by rfl) (by rfl); k_whole)
  | (refine' nameX_F (by k_asm) (by rfl) (by k_mem) (by k_asm) ?_ (by rfl) (by rfl); k_whole)
  | (refine' nameX_C (by k_asm) (by rfl) (by k_mem) (by k_asm) ?_ (by rfl) (by rfl); k_whole)
  | (refine' nameX_K (by k_asm) (by k_asm) (by k_asm) (by k_is) ?_ (by rfl) (by rfl); k_whole)
  | (refine' nameX_B (by k_asm) (by k_asm) (by k_asm) (by k_is) (by boot_fast) (by decide) ?_ (by rfl) (by rfl); k_whole))))
  k_with "k:all" => (first | with_reducible assumption | exact List.forall_mem_nil _ | (with_reducible refine List.forall_mem_cons.mpr ⟨?_, ?_⟩; (focus k_ne); wtm_at "k:all") | (with_reducible refine List.forall_mem_append.mpr ⟨?_, ?_⟩; (focus (wtm_at "k:all")); wtm_at "k:all") | exact Ap.ne (by with_reducible assumption) (by wtm_at "k:mem") | exact lts_ne (by with_reducible assumption) (by omega) | exact gts_ne (by with_reducible assumption) (by omega) | exact lts_sub_ne (by with_reducible assumption) (by wtm_at "k:sub"))
  k_with "callWith ref" => ((k_here; k_dflt (refine' callWith_F (TakeIn.fnAt (by k_asm) (by assumption) (by wtm_at "k:sub")) ?_)))
  k_with "And" => (((with_reducible show FnAt _ _ ∧ _); refine' ⟨TakeIn.fnAt (by k_asm) (by assumption) (by wtm_at "k:sub"), ?_⟩; try dsimp only [List.nil_append, List.cons_append]))
  k_with "call ref" => ((k_here; k_dflt (refine' take_call (by assumption) (by k_asm) (by k_asm) (by k_asm) (by k_asm) (by k_asm) (by wtm_at "k:front") (by wtm_at "k:sub") (by wtm_at "k:all") (by first | assumption | rfl) (by assumption) (by omega) (by omega) (by omega) (by omega) (by omega) (by omega) ?_); intro _ _ _ _ _ _ _ _ _; (try k_sweep)))
  k_with "k:haltX" => ((with_reducible show wpAny _ _ (exec (Stmt.Assign _ (Expr.ListComp _ _ _ _) _) _) _ _ _))
  k_with "k:haltX" => ((with_reducible show wpAny _ _ (exec (Stmt.For _ _ _ _ _) _) _ _ _))
  k_with "k:haltE" => ((with_reducible show wpAny _ _ (eval (Expr.ListComp _ _ _ _) _) _ _ _))
  k_with "k:halt" => (wtm_at "k:haltO")
  k_with "k:halt" => (wtm_at "k:haltE")
  k_with "k:halt" => (wtm_at "k:haltX")
  k_with "k:go" => ((try k_fold); repeat' ((fail_if_success (wtm_at "k:halt")); wtm_at "k:k1"))
  k_with "k:haltO" => ((with_reducible show LCg.CompEnd _ _ _ _ _ _ _ _ _ _ _ _ _ _))
  k_with "k:haltO" => ((with_reducible show TurnEnd _ _ _ _ _ _ _ _ _))
  k_with "call type:tuple" => ((k_here; (with_reducible show wpAny _ _ (call (Value.type _) [Value.ref _]) _ _ _); k_dflt (refine' kde_tupleOf (by k_asm) (by k_asm) (by exact News.isList (by k_asm) (by k_mem)) (by ((have hq9 := IntsAre.length (by assumption)); (simp only [List.size_toArray]); omega)) (by rfl) ?_; k_whole); intro _ _ _ _ l1; (try k_lt l1); (try k_sweep)); (try (revert l1; intro _)))
  k_with "k:haltE" => ((with_reducible show wpAny _ _ (call (Value.builtin "list.append") _) _ _ _))
  k_with "subscriptTail Attribute" => ((k_here; k_dflt (refine kba_turn (value' := PySem.Expr.Name (PySem.Str.ofString "_") ⟨0, 0, 0, 0⟩) (fun _ => rfl) ?_)))
  k_with "subscriptTail Subscript" => ((k_here; k_dflt (refine kba_turn (value' := PySem.Expr.Name (PySem.Str.ofString "_") ⟨0, 0, 0, 0⟩) (fun _ => rfl) ?_)))
  k_with "subscriptTail" => (wtm_at "k:fsub")
  k_with "subscriptTail Name Name ref int" => (wtm_at "k:fsub")
  k_with "subscriptTail Name Name str int" => (wtm_at "k:fsub")
  k_with "subscriptTail Name Name ref str" => (wtm_at "k:fsub")
  k_with "subscriptTail Name Constant ref int" => (wtm_at "k:fsub")
  k_with "subscriptTail Name Constant str int" => (wtm_at "k:fsub")
  k_with "subscriptTail Name Constant ref str" => (wtm_at "k:fsub")
  k_with "subscriptTail Name BinOp ref int" => (wtm_at "k:fsub")
  k_with "subscriptTail Name BinOp str int" => (wtm_at "k:fsub")
  k_with "subscriptTail Name BinOp ref str" => (wtm_at "k:fsub")
  k_with "execs cons" => ((k_here; (with_reducible refine gen_toks ?_); (intro (tk : Nat))))
  k_with "execs nil" => ((k_here; (with_reducible refine gen_toks ?_); (intro (tk : Nat))))
  k_with "k:haltO" => ((with_reducible show Hold _))
  k_with "k:haltX" => ((with_reducible show wpAny _ _ (exec (Stmt.Assign _ (PySem.Expr.IfExp _ _ _ _) _) _) _ _ _))
  k_with "k:fsub" => ((k_here; (with_reducible show wpAny _ _ (subscriptTail _ _ (Value.str _ _) (Value.int _ _)) _ _ _); k_dflt (refine' itemSY (by assumption) (by omega) (by omega) (by assumption) ?_)))
  k_with "k:fsub" => ((k_here; (with_reducible show wpAny _ _ (subscriptTail _ _ (Value.ref _) (Value.int _ _)) _ _ _); k_dflt (refine' itemL (by k_asm) (by k_mem) (by omega) (by omega) (by assumption) ?_)))
  k_with "ite" => ((k_here; k_openite; k_spoken; first | (refine ite_neg (by first | omega | (simp only [decide_eq_true_eq, beq_iff_eq]; omega)) ?_) | (refine ite_pos (by first | omega | (simp only [decide_eq_true_eq, beq_iff_eq]; omega)) ?_)))
  k_with "call ref" => ((k_here; k_dflt (refine wpAny_call ?_; refine' due_spec (by k_asm) (by k_asm) (by k_asm) (by k_asm) (by k_asm) (by first | assumption | rfl) (by omega) (by omega) (by (refine AutoL.mono ?_ (by assumption); wtm_at "k:sub")) (by assumption) (by (refine CutsL.mono ?_ (by assumption); wtm_at "k:sub")) (by assumption) (by assumption) (by omega) ?_); intro _ _ _ _ D9 _ _ _; (have _ := D9); (obtain ⟨_, _, _, dv9, _, _⟩ := D9); subst dv9))
  k_with "call ref" => ((k_here; k_dflt (refine' begins_call (by k_asm) (by k_asm) (by k_asm) (by k_asm) (by k_asm) (by first | assumption | rfl) (by omega) (by omega) (by (refine ScanL.mono ?_ (by assumption); wtm_at "k:sub")) (by assumption) (by assumption) (by omega) (by assumption) ?_); intro _ _ _ _ _))
  k_with "call ref" => ((k_here; k_dflt (refine wpAny_call ?_; refine' cand_spec (by k_asm) (by k_asm) (by k_asm) (by k_asm) (by k_asm) (by first | assumption | rfl) (by omega) (by omega) (by (refine ScanL.mono ?_ (by assumption); wtm_at "k:sub")) (by (refine TabL.mono ?_ (by assumption); wtm_at "k:sub")) (by (refine MadeL.mono ?_ (by assumption); wtm_at "k:sub")) (by (refine HeldL.mono ?_ (by assumption); wtm_at "k:sub")) (by assumption) (by assumption) (by k_mem) (by assumption) (by assumption) (by assumption) (by omega) (by assumption) (by omega) ?_); intro _ _ _ _ _ _ _ _))
  k_with "subscriptTail Name Slice ref ref" => ((k_here; (with_reducible show wpAny _ _ (subscriptTail _ (PySem.Expr.Slice _ _ none _) (Value.ref _) (Value.ref _)) _ _ _); k_dflt (refine' slice_one (by k_asm) (by k_asm) (by k_mem) (by assumption) ?_); intro _ _ _ _))
  k_with "call builtin:len" => ((k_here; (with_reducible show wpAny _ _ (call (Value.builtin "len") [Value.str _ _]) _ _ _); (refine lenS (by omega) ?_)))
  trivial
section
def lawAll : List Stmt := bodyAt 33 PySem.Challenge.pw_ok0119_01.main.body
def lawScope : Scope := scopeAt 33 PySem.Challenge.pw_ok0119_01.main.body
theorem ScanL.mono {w : World} {l l' : Led} {sx : Addr} {x : Str} {tb nb pl tl : Addr} (hs : ∀ p ∈ l, p ∈ l') (h : ScanL w l sx x tb nb pl tl) : ScanL w l' sx x tb nb pl tl := by
  obtain ⟨dsx, v2, v3, v4, sa, sb1, sc, sd, se, sf, s1, s2, s3, s4, s5, s6, s7, s8, s9, ua, ub, uc, ud, ue, uf, msx, mds⟩ := h
  exact ⟨dsx, v2, v3, v4, sa, sb1, sc, sd, se, sf, s1, s2, s3, s4, s5, s6, s7, s8, s9, ua, ub, uc, ud, ue, uf, hs _ msx, hs _ mds⟩
theorem All2.take {α β : Type} {P : α → β → Prop} (n : Nat) : ∀ {as : List α} {bs : List β}, All2 P as bs → All2 P (as.take n) (bs.take n) := by
  induction n with
  | zero => intro as bs _; exact .nil
  | succ n ih =>
    intro as bs h
    cases h with
    | nil => exact .nil
    | cons x r => exact .cons x (ih r)
theorem candAll_len {cts : List (Int × Bool × Int)} {at_ : Int} : ∀ {es : List (Int × List Int)}, (∀ p ∈ es, p.2.length ≤ 4) → (candAll cts at_ es).length ≤ 4 * es.length
  | [], _ => Nat.le_refl _
  | p :: r, h => by
    have h1 := candAll_len (cts := cts) (at_ := at_) fun q hq => h q (List.mem_cons_of_mem p hq)
    have h2 := h p List.mem_cons_self
    rw [candAll_cons, List.length_append, List.length_cons]
    have h3 := rowOf_len (cts := cts) (at_ := at_) (len := p.1 - at_) (ts := p.2)
    have h4 : (candRow cts at_ p).length ≤ 4 := Nat.le_trans h3 h2
    omega
theorem slice_one {w : World} {A : Around} {E : Value → Shared → Prop} {s : Shared} {h₀ : Heap} {L : Addr} {m : Str → Option Value} {value slice : PySem.Expr} {Q : Value → Shared → Prop} {news : Led} {l : Addr} {vs : List Value} {n t : Nat}
    (F : Fr h₀ L s.heap m) (N : News h₀ L s.heap news) (hm : (l, listOf (List.toArray vs) n) ∈ news) (hz : vs.length ≤ 1000)
    (h : ∀ D h', Fr h₀ L h' m → News h₀ L h' ((D, listOf (List.toArray (vs.take 1)) 0) :: news) → Q (.ref D) { s with heap := h' })
    (hs : subscripted slice false (.ref l) (.ref s.heap.objs.size) = operate [.ref s.heap.objs.size, .ref l] (getItem (.ref l) (.ref s.heap.objs.size)) := by with_unfolding_all rfl) (ht : ∀ r, letTemporaryGo value (.ref l) r = pure () := by intro _; with_unfolding_all rfl) :
    wpAny (model prg w) A (subscriptTail value slice (.ref l) (.ref s.heap.objs.size)) Q E { s with heap := s.heap.push { cls := .type "slice", data := .fields #[.none, .int 1 t, .none] } } := by
  refine kms_slice_lit (zs := vs.take 1) F N (News.isList N hm) IsPart.none (IsPart.int _ _) ?_ (fun D h' F' N' l1 => h D h' F' N') hs ht (by simp only [List.size_toArray]; rw [sizeLine_eq]; omega)
  rw [List.toList_toArray]
  show (vs.drop 0).take ((if (1 : Int) < 0 then vs.length - (-1 : Int).toNat else min (1 : Int).toNat vs.length) - 0) = vs.take 1
  rw [if_neg (by decide), List.drop_zero]
  cases vs with
  | nil => rfl
  | cons a r => simp
theorem law_tail2 {w : World} {g : Heap} {L a : Addr} {cd : Value} {gd : Option (List Code)} {base : Heap} {A₀ : Around} {mg mb : Str → Option Value} {mean : ExcName → Option Value} {tP : Program} {tL : List Str} {m : Str → Option Value} {s : Shared} {Q : Flow → Shared → Prop} {E : Value → Shared → Prop}
    {P9 : Addr} {oP : Obj} {b9 : Led} {sx tb nb pl9 tl9 d la : Addr} {cv hv : Value} {nvs : List Value} {nc : Nat} {oB oA : Obj} {v0 v1 : Value} {cts : List (Int × Bool × Int)} {r0 t0 r1 t1 : List (List Int)} {x : Str} {tx : Tok} {rej : Bool}
    (B : Below A₀ base [] g) (X : (hd.heap_1 w.params).In g) (T : Top tP tL mean mg mb g) (hbig : sysModules < g.objs.size) (F : Fr g L s.heap m) (N : News g L s.heap b9)
    (hms : m (Str.ofString "scanner") = some (.ref sx)) (hmt : m (Str.ofString "tables") = some (.ref tb)) (hmx : m (Str.ofString "text") = some (.str x tx)) (hmr : m (Str.ofString "has_reject") = some (.bool rej))
    (SS : ScanL w b9 sx x tb nb pl9 tl9) (TB : TabL w b9 tb cv hv rej) (MD : MadeL w b9 cv cts) (HD : HeldL w b9 hv r0 t0 r1 t1) (mnb : (nb, listOf (List.toArray nvs) nc) ∈ b9) (IN : IntsAre nvs (x.cps.toList.map numOf)) (mtl : (tl9, listOf (List.toArray []) 0) ∈ b9)
    (mla : (la, listOf (List.toArray [v0, v1]) 0) ∈ b9) (A0 : AutoL b9 v0 r0 t0) (A1 : AutoL b9 v1 r1 t1) (H0 : AutoOk r0 t0) (H1 : AutoOk r1 t1) (CX : CutsL w b9 (.ref d) cts) (mB : (L + 1 + 1, oB) ∈ b9) (dB : oB.data = .cell (some (.ref d))) (mA : (L + 1 + 1 + 1, oA) ∈ b9) (dA : oA.data = .cell (some (.ref la)))
    (hx : ∀ (i c : Nat), x.cps[i]? = some c → Abn c) (hx6 : x.cps.size ≤ 6)
    (mP : (P9, oP) ∈ b9) (ret : ∀ h' tks m', Fr g L h' m' → h'.get? P9 = some oP → Q (.ret (.bool true)) { s with heap := h', toks := tks }) :
    wpAny (model prg w) (ktrTop 302 7 gd (Str.ofString "law") lawScope L a cd (cellsFrom (L + 1) lawScope.names []) []) (execs (lawAll.drop 14) (envX (Str.ofString "law") lawScope L a cd (cellsFrom (L + 1) lawScope.names []))) Q E s := by
  generalize hsc : lawScope = sc
  conv at hsc => lhs; whnf
  generalize hbo : List.drop 14 lawAll = bo
  conv at hbo => lhs; whnf
  subst hsc hbo
  have hrl : recursionLimit = 1000 := rfl
  have hcl : cLine = 9900 := rfl
  with_reducible refine no_raise ?_
  try dsimp only
  have S0 := SS
  have T0 := TB
  obtain ⟨dsx, v2, v3, v4, sa, sb1, sc, sd, se, sf, s1, s2, s3, s4, s5, s6, s7, s8, s9, ua, ub, uc, ud, ue, uf, msx, mds⟩ := SS
  obtain ⟨dtb, w1, w2, w4, w6, w7, w8, q1, q2, q3, q4, q5, q6, q7, q8, q9, mtb, mdt⟩ := TB
  wtm_at "k:go"
  · rename_i hne
    simp at hne
  rename_i hne0
  clear hne0
  k_dflt (refine for_src (h₀ := g) (by rfl) (by rfl) ?_)
  wtm_at "k:go"
  rename_i h5 tk5 t51 t52 t53 hr5 F5 N5 keep5
  obtain ⟨ns, hns⟩ : ∃ ns, ns = x.cps.toList.map numOf := ⟨_, rfl⟩
  rw [← hns] at IN
  have hnlen : ns.length = x.cps.size := by rw [hns, List.length_map]; rfl
  have hnlen2 : x.cps.size = ns.length := hnlen.symm
  have hn3 : ∀ q ∈ ns, 0 ≤ q ∧ q < 3 := by
    rw [hns]
    intro q hq
    obtain ⟨c, _, rfl⟩ := List.mem_map.mp hq
    exact numOf_in c
  first | delta Hold | ((try k_unmd); k_unfold; delta Hold) | (show Hold _; delta Hold)
  refine ⟨x.cps.size, _, _, _, _, Src.range (n := x.cps.size) rfl hr5 (small_nat (by omega)) size_nat, F5, N5, fun i m nx => nx = b9 ∧ m (Str.ofString "scanner") = some (.ref sx) ∧ m (Str.ofString "text") = some (.str x tx) ∧ m (Str.ofString "has_reject") = some (.bool rej), fun _ _ _ _ => trivial, ⟨rfl, hms, hmx, hmr⟩, ?lturn, ?lfin⟩
  case lturn =>
    intro i v m₁ nx I0 oI h tk E' hi hP hJ F6 N6 off6
    obtain ⟨hnx, hms', hmx', hmr'⟩ := hJ
    have hnx := hnx.symm
    subst hnx
    obtain ⟨te, rfl⟩ := hP
    change Fr g L h _ at F6
    change News g L h _ at N6
    rw [show (0 : Int) + (i : Int) = (i : Int) from Int.zero_add _] at F6
    obtain ⟨bg, hbg⟩ : ∃ bg : Int, (if beginsOf x i = true then 1 else 0) = bg := ⟨_, rfl⟩
    have hbg0 : 0 ≤ bg ∧ bg < 2 := by rw [← hbg]; split <;> omega
    obtain ⟨vb, hvb⟩ : ∃ vb, vb = if beginsOf x i = true then v1 else v0 := ⟨_, rfl⟩
    obtain ⟨rows, hrows⟩ : ∃ rows, rows = if beginsOf x i = true then r1 else r0 := ⟨_, rfl⟩
    obtain ⟨tags, htags⟩ : ∃ tags, tags = if beginsOf x i = true then t1 else t0 := ⟨_, rfl⟩
    have hit : [v0, v1][bg.toNat]? = some vb := by rw [← hbg, hvb]; split <;> rfl
    have DD : AutoL b9 vb rows tags := by rw [hvb, hrows, htags]; split <;> assumption
    have HH : AutoOk rows tags := by rw [hrows, htags]; split <;> assumption
    have hes : (if beginsOf x i = true then endsOf r1 t1 i ns else endsOf r0 t0 i ns) = endsOf rows tags i ns := by rw [hrows, htags]; split <;> rfl
    have hdl := due_law HH (cts := cts) (at_ := i) (codes := x.cps.toList)
    rw [← hns] at hdl
    clear F5 hvb hrows htags hns
    try clear N5
    try clear F
    try clear N
    wtm_at "k:go"
    k_dflt (refine wpAny_joinF (fun f h' => ShP1V2P7 (f = .next) (fun (t : Tok) (m' : Str → Option Value) => Fr g L h' m') (fun (t : Tok) (m' : Str → Option Value) => News g L h' ((I0, oI) :: b9)) (fun (t : Tok) (m' : Str → Option Value) => m' (Str.ofString "begins") = some (.int bg t)) (fun (t : Tok) (m' : Str → Option Value) => m' (Str.ofString "at") = some (.int (i : Int) te)) (fun (t : Tok) (m' : Str → Option Value) => m' (Str.ofString "scanner") = some (.ref sx)) (fun (t : Tok) (m' : Str → Option Value) => m' (Str.ofString "text") = some (.str x tx)) (fun (t : Tok) (m' : Str → Option Value) => m' (Str.ofString "has_reject") = some (.bool rej))) ?bj ?on)
    case bj =>
      by_cases h0 : i = 0
      · subst h0
        obtain rfl : (1 : Int) = bg := hbg
        wtm_at "k:k1"
        wtm_at "k:go"
        rename_i FY NY
        exact ⟨_, _, rfl, (by first | exact rfl | exact True.intro), _, _, FY, NY, rfl, rfl, hms', hmx', hmr'⟩
      · obtain ⟨c, hc⟩ : ∃ c, x.cps[i - 1]? = some c := ⟨_, Array.getElem?_eq_getElem (by omega)⟩
        have hcn := hx _ _ hc
        have e0 : ((i : Int) - 1).toNat = i - 1 := by omega
        have hc' : x.cps[((i : Int) - 1).toNat]? = some c := by rw [e0]; exact hc
        have eb : beginsOf x i = (c == 10) := by
          unfold beginsOf
          rw [hc, beq_false_of_ne h0, Bool.false_or]
          rfl
        rw [eb] at hbg
        rcases hcn with rfl | rfl | rfl
        · have hy : (⟨#[97]⟩ : Str) = Str.ofString "a" := by decide +kernel
          obtain rfl : (0 : Int) = bg := hbg
          wtm_at "k:k1"
          wtm_at "k:go"
          rename_i FY NY
          exact ⟨_, _, rfl, (by first | exact rfl | exact True.intro), _, _, FY, NY, rfl, rfl, hms', hmx', hmr'⟩
        · have hy : (⟨#[98]⟩ : Str) = Str.ofString "b" := by decide +kernel
          obtain rfl : (0 : Int) = bg := hbg
          wtm_at "k:k1"
          wtm_at "k:go"
          rename_i FY NY
          exact ⟨_, _, rfl, (by first | exact rfl | exact True.intro), _, _, FY, NY, rfl, rfl, hms', hmx', hmr'⟩
        · have hy : (⟨#[10]⟩ : Str) = Str.ofString "\n" := by decide +kernel
          obtain rfl : (1 : Int) = bg := hbg
          wtm_at "k:k1"
          wtm_at "k:go"
          rename_i FY NY
          exact ⟨_, _, rfl, (by first | exact rfl | exact True.intro), _, _, FY, NY, rfl, rfl, hms', hmx', hmr'⟩
    case on =>
      rintro _ h6 tk6 ⟨rfl, tb6, m', F7, N7, hmb, hma, hms2, hmx2, hmr2⟩
      dsimp only
      repeat' ((fail_if_success (with_reducible show wpAny _ _ (call (Value.ref 791) _) _ _ _)); wtm_at "k:k1")
      k_here
      k_dflt (refine wpAny_call ?_; refine' due_spec ?cB ?cF ?cX ?cN ?cT ?chk ?cdp ?cun ?ci ?ch ?cc ?cx ?cz ?ca ?_)
      case cF => k_asm
      case cN => k_asm
      case cB => k_asm
      case cX => k_asm
      case cT => k_asm
      case chk => first | assumption | rfl
      case cdp => omega
      case cun => omega
      case ci => (refine AutoL.mono ?_ (by assumption); wtm_at "k:sub")
      case ch => assumption
      case cc => (refine CutsL.mono ?_ (by assumption); wtm_at "k:sub")
      case cx => assumption
      case cz => assumption
      case ca => omega
      intro vd tld hD tkD FdD FD ND apD
      rw [hdl] at FdD
      have FdD2 := FdD
      obtain ⟨da, dvs, dn, rfl, dm, dall⟩ := FdD
      have hdvl := All2.length dall
      have hen := endsOf_len (rows := rows) (tags := tags) (at_ := i) (ns := ns)
      have hin := endsOf_in HH (at_ := i) (ns := ns) (by omega)
      have hcl := candAll_len (cts := cts) (at_ := (i : Int)) (es := endsOf rows tags i ns) fun p hp => (hin p hp).2.2
      have hdz : dvs.length ≤ 1000 := by omega
      obtain ⟨bD, hbD⟩ : ∃ bD : Led, bD = tld ++ (I0, oI) :: b9 := ⟨_, rfl⟩
      rw [← hbD] at ND
      have sbD : ∀ p ∈ (I0, oI) :: b9, p ∈ bD := by rw [hbD]; exact fun p hp => List.mem_append_right _ hp
      have sb9 : ∀ p ∈ b9, p ∈ bD := fun p hp => sbD p (List.mem_cons_of_mem _ hp)
      have mI0 : (I0, oI) ∈ bD := sbD _ List.mem_cons_self
      have FdD3 : FoundL bD (.ref da) (candAll cts i (endsOf rows tags i ns)) := FdD2.mono (by rw [hbD]; exact fun p hp => List.mem_append_left _ hp)
      have dm3 : (da, listOf (List.toArray dvs) dn) ∈ bD := by rw [hbD]; exact List.mem_append_left _ dm
      have dall3 : All2 (PairV bD) dvs (candAll cts i (endsOf rows tags i ns)) := dall.mono fun _ _ => PairV.mono (by rw [hbD]; exact fun p hp => List.mem_append_left _ hp)
      replace S0 := S0.mono sb9
      replace T0 := T0.mono sb9
      replace MD := MD.mono sb9
      replace HD := HD.mono sb9
      replace mnb := sb9 _ mnb
      replace msx := sb9 _ msx
      replace mds := sb9 _ mds
      replace mtb := sb9 _ mtb
      replace mdt := sb9 _ mdt
      clear F7 N7 N6 F6 hbD apD
      dsimp only
      cases rej
      · wtm_at "k:go"
        · rename_i hne
          exact absurd rfl hne
        rename_i vC tlC hC tkC FC FCr NC apC Dn hDn FDn NDn
        rw [hes] at FC
        have FD1 : FoundL ((Dn, listOf (List.toArray (dvs.take 1)) 0) :: (tlC ++ bD)) (.ref Dn) ((candAll cts i (endsOf rows tags i ns)).take 1) := ⟨Dn, dvs.take 1, 0, rfl, List.mem_cons_self, (All2.take 1 dall3).mono fun _ _ => PairV.mono (fun p hp => List.mem_cons_of_mem _ (List.mem_append_right _ hp))⟩
        k_dflt (refine ne_found (f := (candAll cts i (endsOf rows tags i ns)).take 1) NDn FC FD1 (fun p hp => List.mem_cons_of_mem _ (List.mem_append_left _ hp)) (fun p hp => hp) (by show 7 + 64 < cLine; omega) ?_)
        wtm_at "k:go"
        exact TurnEnd.next FDn NDn b9 (fun p hp => List.mem_cons_of_mem _ (List.mem_append_right _ (sbD p hp))) off6 ⟨rfl, hms2, hmx2, hmr2⟩
      · wtm_at "k:go"
        · rename_i hne
          exact absurd rfl hne
        rename_i vC tlC hC tkC FC FCr NC apC
        rw [hes] at FC
        k_dflt (refine ne_found (f := candAll cts i (endsOf rows tags i ns)) NC FC FdD3 (fun p hp => List.mem_append_left _ hp) (fun p hp => List.mem_append_right _ hp) (by show 7 + 64 < cLine; omega) ?_)
        wtm_at "k:go"
        exact TurnEnd.next FCr NC b9 (fun p hp => List.mem_append_right _ (sbD p hp)) off6 ⟨rfl, hms2, hmx2, hmr2⟩
  case lfin =>
    intro h22 tk22 m₂ nx F22 N22 hJ
    obtain ⟨hnx, hms', hmx', hmr'⟩ := hJ
    have hnx := hnx.symm
    subst hnx
    change Fr g L h22 _ at F22
    change News g L h22 _ at N22
    clear F5
    try clear N5
    try clear F
    try clear N
    wtm_at "k:go"
    rename_i hZ FZ NZ ltZ lsZ
    exact ret _ _ _ FZ (NZ (P9, oP) (by wtm_at "k:mem")).1
end
theorem lines21 : True := by
  w_top off
  k_with_none
  k_with "k:k1" => ((first | (k_unfold; (try dsimp only)) | (k_end; wrow_close) | walk1 | (dsimp only; walk1) | (leave1; walk_say "STEP leave1"; try dsimp only) | fail "no step"))
  k_with "k:mem" => (first | exact List.mem_cons_self | ktr_member | (refine List.mem_cons_of_mem _ ?_; wtm_at "k:mem") | (refine List.mem_append_left _ ?_; wtm_at "k:mem") | (refine List.mem_append_right _ ?_; wtm_at "k:mem"))
  k_with "k:sub" => (first | with_reducible exact sub_refl | with_reducible assumption | with_reducible exact sub_nil | (with_reducible refine sub_of_cons ?_ ?_; (focus (wtm_at "k:mem")); wtm_at "k:sub") | (with_reducible refine sub_of_app ?_ ?_; (focus (wtm_at "k:sub")); wtm_at "k:sub") | (with_reducible refine sub_cons ?_; wtm_at "k:sub") | (with_reducible refine sub_appl ?_; wtm_at "k:sub") | (with_reducible refine sub_appr ?_; wtm_at "k:sub"))
  k_with "k:front" => (first | exact Front.head | exact Front.tail (by wtm_at "k:front") | exact Front.app (by wtm_at "k:front"))
  k_with "eval Name" => ((k_here; (fail_if_success (fail_if_success ((with_reducible refine loc_first ?_ ?_); (focus (k_dflt rfl))))); k_dflt (refine' nameX_L (by k_asm) (by first | rfl | assumption) ?_ (by rfl) (by rfl); k_whole)))
  k_with "eval Name" => ((k_here; (with_reducible show wpAny _ _ (eval (Expr.Name _ _) (envX _ _ _ _ _ _)) _ _ _); k_dflt (first
  | (refine' nameX_L (by k_asm) (by first | rfl | assumption) ?_ (by rfl) (by rfl); k_whole)
  | (refine' nameX_F (by k_asm) (by rfl) (by k_mem) (by k_asm) ?_ (by rfl) (by rfl); k_whole)
  | (refine' nameX_C (by k_asm) (by rfl) (by k_mem) (by k_asm) ?_ (by rfl) (by rfl); k_whole)
  | (refine' nameX_K (by k_asm) (by k_asm) (by k_asm) (by k_is) ?_ (by rfl) (by rfl); k_whole)
  | (refine' nameX_B (by k_asm) (by k_asm) (by k_asm) (by k_is) (by boot_fast) (by decide) ?_ (by rfl) (by rfl); k_whole))))
  k_with "k:all" => (first | with_reducible assumption | exact List.forall_mem_nil _ | (with_reducible refine List.forall_mem_cons.mpr ⟨?_, ?_⟩; (focus k_ne); wtm_at "k:all") | (with_reducible refine List.forall_mem_append.mpr ⟨?_, ?_⟩; (focus (wtm_at "k:all")); wtm_at "k:all") | exact Ap.ne (by with_reducible assumption) (by wtm_at "k:mem") | exact lts_ne (by with_reducible assumption) (by omega) | exact gts_ne (by with_reducible assumption) (by omega) | exact lts_sub_ne (by with_reducible assumption) (by wtm_at "k:sub"))
  k_with "callWith ref" => ((k_here; k_dflt (refine' callWith_F (TakeIn.fnAt (by k_asm) (by assumption) (by wtm_at "k:sub")) ?_)))
  k_with "And" => (((with_reducible show FnAt _ _ ∧ _); refine' ⟨TakeIn.fnAt (by k_asm) (by assumption) (by wtm_at "k:sub"), ?_⟩; try dsimp only [List.nil_append, List.cons_append]))
  k_with "call ref" => ((k_here; k_dflt (refine' take_call (by assumption) (by k_asm) (by k_asm) (by k_asm) (by k_asm) (by k_asm) (by wtm_at "k:front") (by wtm_at "k:sub") (by wtm_at "k:all") (by first | assumption | rfl) (by assumption) (by omega) (by omega) (by omega) (by omega) (by omega) (by omega) ?_); intro _ _ _ _ _ _ _ _ _; (try k_sweep)))
  k_with "k:haltX" => ((with_reducible show wpAny _ _ (exec (Stmt.Assign _ (Expr.ListComp _ _ _ _) _) _) _ _ _))
  k_with "k:haltX" => ((with_reducible show wpAny _ _ (exec (Stmt.For _ _ _ _ _) _) _ _ _))
  k_with "k:haltE" => ((with_reducible show wpAny _ _ (eval (Expr.ListComp _ _ _ _) _) _ _ _))
  k_with "k:halt" => (wtm_at "k:haltO")
  k_with "k:halt" => (wtm_at "k:haltE")
  k_with "k:halt" => (wtm_at "k:haltX")
  k_with "k:go" => ((try k_fold); repeat' ((fail_if_success (wtm_at "k:halt")); wtm_at "k:k1"))
  k_with "k:haltO" => ((with_reducible show LCg.CompEnd _ _ _ _ _ _ _ _ _ _ _ _ _ _))
  k_with "k:haltO" => ((with_reducible show TurnEnd _ _ _ _ _ _ _ _ _))
  k_with "call type:tuple" => ((k_here; (with_reducible show wpAny _ _ (call (Value.type _) [Value.ref _]) _ _ _); k_dflt (refine' kde_tupleOf (by k_asm) (by k_asm) (by exact News.isList (by k_asm) (by k_mem)) (by ((have hq9 := IntsAre.length (by assumption)); (simp only [List.size_toArray]); omega)) (by rfl) ?_; k_whole); intro _ _ _ _ l1; (try k_lt l1); (try k_sweep)); (try (revert l1; intro _)))
  k_with "k:haltE" => ((with_reducible show wpAny _ _ (call (Value.builtin "list.append") _) _ _ _))
  k_with "subscriptTail Attribute" => ((k_here; k_dflt (refine kba_turn (value' := PySem.Expr.Name (PySem.Str.ofString "_") ⟨0, 0, 0, 0⟩) (fun _ => rfl) ?_)))
  k_with "subscriptTail Subscript" => ((k_here; k_dflt (refine kba_turn (value' := PySem.Expr.Name (PySem.Str.ofString "_") ⟨0, 0, 0, 0⟩) (fun _ => rfl) ?_)))
  k_with "subscriptTail" => (wtm_at "k:fsub")
  k_with "subscriptTail Name Name ref int" => (wtm_at "k:fsub")
  k_with "subscriptTail Name Name str int" => (wtm_at "k:fsub")
  k_with "subscriptTail Name Name ref str" => (wtm_at "k:fsub")
  k_with "subscriptTail Name Constant ref int" => (wtm_at "k:fsub")
  k_with "subscriptTail Name Constant str int" => (wtm_at "k:fsub")
  k_with "subscriptTail Name Constant ref str" => (wtm_at "k:fsub")
  k_with "subscriptTail Name BinOp ref int" => (wtm_at "k:fsub")
  k_with "subscriptTail Name BinOp str int" => (wtm_at "k:fsub")
  k_with "subscriptTail Name BinOp ref str" => (wtm_at "k:fsub")
  k_with "execs cons" => ((k_here; (with_reducible refine gen_toks ?_); (intro (tk : Nat))))
  k_with "execs nil" => ((k_here; (with_reducible refine gen_toks ?_); (intro (tk : Nat))))
  k_with "k:haltO" => ((with_reducible show Hold _))
  k_with "call ref" => ((k_here; k_dflt (refine' step_make (by k_asm) (by k_asm) (by k_asm) (by k_asm) (by k_asm) (by first | assumption | rfl) (by omega) (by omega) ?_); intro _ _ _ _ _ _ _ _ l9 _; (try k_lt l9); (try k_sweep)); (try (revert l9; intro _)))
  k_with "call ref" => ((k_here; k_dflt (refine' rule_make (by k_asm) (by k_asm) (by k_asm) (by k_asm) (by k_asm) (by first | assumption | rfl) (by omega) (by omega) ?_); intro _ _ _ _ _ _ _ _ _ _ _ l9 _; (try k_lt l9); (try k_sweep)); (try (revert l9; intro _)))
  k_with "call ref" => ((k_here; k_dflt (refine' dfa_make (by k_asm) (by k_asm) (by k_asm) (by k_asm) (by k_asm) (by first | assumption | rfl) (by omega) (by omega) ?_); intro _ _ _ _ _ _ _ _ l9 _; (try k_lt l9); (try k_sweep)); (try (revert l9; intro _)))
  k_with "call ref" => ((k_here; k_dflt (refine' cut_make (by k_asm) (by k_asm) (by k_asm) (by k_asm) (by k_asm) (by first | assumption | rfl) (by omega) (by omega) ?_); intro _ _ _ _ _ _ _ _ _ _ l9 _; (try k_lt l9); (try k_sweep)); (try (revert l9; intro _)))
  k_with "k:fsub" => ((k_here; (with_reducible show wpAny _ _ (subscriptTail _ _ (Value.ref _) (Value.int _ _)) _ _ _); k_dflt (refine' itemT (by k_asm) (by k_mem) (by omega) (by omega) (by first | assumption | exact rfl) ?_)))
  k_with "k:fsub" => ((k_here; (with_reducible show wpAny _ _ (subscriptTail _ _ (Value.ref _) (Value.int _ _)) _ _ _); k_dflt (refine' itemL (by k_asm) (by k_mem) (by omega) (by omega) (by assumption) ?_)))
  k_with "k:fsub" => ((k_here; (with_reducible show wpAny _ _ (subscriptTail _ _ (Value.ref _) (Value.int _ _)) _ _ _); k_dflt (refine' kda_item (knd := PySem.intKind _ _) (by k_asm) (by k_mem) (by assumption) (by exact intKind_is _ _ _ _) (by assumption) ?_)))
  k_with "call type:dict" => ((k_here; (with_reducible show wpAny _ _ (call (Value.type "dict") [Value.ref _]) _ _ _); k_dflt (refine' dict_pairs (by exact rfl) (by k_asm) (by k_asm) (by k_mem) (by assumption) (by omega) (by assumption) (by assumption) ?_); intro _ _ _ _ _ _ _ _ _))
  k_with "call ref" => ((k_here; k_dflt (refine' chars_call (by k_asm) (by k_asm) (by k_asm) (by k_asm) (by k_asm) (by first | assumption | rfl) (by omega) (by omega) (by first | exact charA | exact charB) (by decide) ?_); intro _ _ _ _ _ _ _))
  k_with "call ref" => ((k_here; k_dflt (refine' classes_call (by k_asm) (by k_asm) (by k_asm) (by k_asm) (by k_asm) (by first | assumption | rfl) (by omega) (by omega) (by k_mem) (by (refine OneL.mono ?_ (by assumption); wtm_at "k:sub")) (by (refine OneL.mono ?_ (by assumption); wtm_at "k:sub")) ?_); intro _ _ _ _ _ _ _))
  k_with "call ref" => ((k_here; k_dflt (refine' tables_call (by k_asm) (by k_asm) (by k_asm) (by k_asm) (by k_asm) (by first | assumption | rfl) (by omega) (by omega) (by k_mem) (by (refine All2.mono (fun _ _ => RuleL.mono ?_) (by assumption); wtm_at "k:sub")) (by k_mem) (by assumption) (by assumption) ?_); intro _ _ _ _ _ _ _))
  k_with "call ref" => ((k_here; k_dflt (refine' scan_call (by k_asm) (by k_asm) (by k_asm) (by k_asm) (by k_asm) (by first | assumption | rfl) (by omega) (by omega) (by (refine TabF.mono ?_ (by assumption); wtm_at "k:sub")) (by (refine ClsL.mono ?_ (by assumption); wtm_at "k:sub")) (by assumption) (by assumption) ?_); intro _ _ _ _ _ _ _ _ _ _ _ _ _ _ _))
  k_with "k:haltE" => ((with_reducible show wpAny _ _ (execs (Stmt.If (PySem.Expr.Compare (PySem.Expr.Attribute _ _ _) _ _ _) _ _ _ :: _) _) _ _ _))
  trivial
section
theorem mem_at {l : Led} (i : Nat) {q : Addr × Obj} (h : l[i]? = some q) : q ∈ l := List.mem_of_getElem? h
/-- what the law has drawn -/
structure Drawn9 (w : World) (l : Led) (d la : Addr) (v0 v1 : Value) (o : Obj) (kvs : List (Int × Value)) (cts : List (Int × Bool × Int)) (r0 t0 r1 t1 : List (List Int)) : Prop where
  dict : (d, o) ∈ l
  isd : o.IsDictOf (intKind prg w) kvs
  low : (d == sysModules) = false
  cuts : All2 (CutV l) kvs cts
  few : kvs.length ≤ 4
  nodup : (kvs.map (·.1)).Nodup
  aut : (la, listOf (List.toArray [v0, v1]) 0) ∈ l
  a0 : AutoL l v0 r0 t0
  a1 : AutoL l v1 r1 t1
  h0 : AutoOk r0 t0
  h1 : AutoOk r1 t1
theorem Drawn9.mono {w : World} {l l' : Led} {d la : Addr} {v0 v1 : Value} {o : Obj} {kvs : List (Int × Value)} {cts : List (Int × Bool × Int)} {r0 t0 r1 t1 : List (List Int)} (hs : ∀ p ∈ l, p ∈ l') (h : Drawn9 w l d la v0 v1 o kvs cts r0 t0 r1 t1) : Drawn9 w l' d la v0 v1 o kvs cts r0 t0 r1 t1 where
  dict := hs _ h.dict
  isd := h.isd
  low := h.low
  cuts := h.cuts.mono fun _ _ => CutV.mono hs
  few := h.few
  nodup := h.nodup
  aut := hs _ h.aut
  a0 := h.a0.mono hs
  a1 := h.a1.mono hs
  h0 := h.h0
  h1 := h.h1
def ruleBs (rej : Bool) (sp : Int) (n : Nat) : List Bool := (List.range n).map fun (j : Nat) => rej && decide ((j : Int) = sp)
theorem ruleBs_succ (rej : Bool) (sp : Int) (n : Nat) : ruleBs rej sp (n + 1) = ruleBs rej sp n ++ [rej && decide ((n : Int) = sp)] := by
  unfold ruleBs
  rw [List.range_succ, List.map_append]
  rfl
theorem ruleBs_any (rej : Bool) (sp : Int) (h0 : 0 ≤ sp) (h1 : sp < 4) : (ruleBs rej sp 4).any id = rej := by
  obtain rfl | rfl | rfl | rfl : sp = 0 ∨ sp = 1 ∨ sp = 2 ∨ sp = 3 := by omega
  all_goals (cases rej <;> decide)
/-- pairs as they lie -/
abbrev PairsL (l : Led) (vs : List Value) (kvs : List (Int × Value)) : Prop := All2 (fun (v : Value) (kv : Int × Value) => ShV3P2 (fun p t c => v = .ref p) (fun p t c => (p, tupOf [.int kv.1 t, kv.2] c) ∈ l)) vs kvs
theorem PairsL.mono {l l' : Led} {vs : List Value} {kvs : List (Int × Value)} (hs : ∀ p ∈ l, p ∈ l') (h : PairsL l vs kvs) : PairsL l' vs kvs := All2.mono (fun _ _ q => let ⟨p, t, c, e, hm⟩ := q; ⟨p, t, c, e, hs _ hm⟩) h
theorem valueAt_at {kvs : List (Int × Value)} (hn : (kvs.map (·.1)).Nodup) {i : Nat} {k : Int} {x : Value} (h : kvs[i]? = some (k, x)) : valueAt kvs k = some x := by
  induction kvs generalizing i with
  | nil => simp at h
  | cons kv r ih =>
    rw [List.map_cons, List.nodup_cons] at hn
    cases i with
    | zero =>
      obtain rfl : kv = (k, x) := by simpa using h
      simp [valueAt]
    | succ i =>
      have hk : ¬ kv.1 = k := fun e => hn.1 (by rw [e]; exact List.mem_map.mpr ⟨(k, x), List.mem_of_getElem? (by simpa using h), rfl⟩)
      have := ih hn.2 (i := i) (by simpa using h)
      simp only [valueAt, List.find?_cons, decide_eq_false hk] at this ⊢
      exact this
theorem int_of_is {prog : Program} {w : World} {k : Int} {v : Value} (h : (intKind prog w).is k v = true) : ∃ t, v = .int k t := by
  simp only [intKind] at h
  cases v <;> simp [Value.isInt] at h
  exact ⟨_, by rw [h]⟩
theorem law_tail {w : World} {g : Heap} {L a : Addr} {cd : Value} {gd : Option (List Code)} {base : Heap} {A₀ : Around} {mg mb : Str → Option Value} {mean : ExcName → Option Value} {tP : Program} {tL : List Str} {m : Str → Option Value} {s : Shared} {Q : Flow → Shared → Prop} {E : Value → Shared → Prop}
    {P9 : Addr} {oP : Obj} {pl fa d la : Addr} {k : Int} {tk n0 : Nat} {b2 : Led} {oT oB oA : Obj} {v0 v1 : Value} {o : Obj} {kvs : List (Int × Value)} {cts : List (Int × Bool × Int)} {r0 t0 r1 t1 : List (List Int)} {x : Str} {tx : Tok} {rej : Bool}
    (B : Below A₀ base [] g) (X : (hd.heap_1 w.params).In g) (T : Top tP tL mean mg mb g) (Sr : g.NoSeer) (hbig : sysModules < g.objs.size) (F : Fr g L s.heap m) (N : News g L s.heap ((pl, listOf #[.int k tk] n0) :: b2))
    (mT : (L + 1, oT) ∈ b2) (dT : oT.data = .cell (some (.ref fa))) (mB : (L + 1 + 1, oB) ∈ b2) (dB : oB.data = .cell (some (.ref d))) (mA : (L + 1 + 1 + 1, oA) ∈ b2) (dA : oA.data = .cell (some (.ref la)))
    (W9 : Drawn9 w b2 d la v0 v1 o kvs cts r0 t0 r1 t1) (I : TakeIn b2 (.ref fa) pl) (of5 : ∀ p ∈ b2, p.1 ≠ pl) (hk0 : 1 ≤ k) (hk1 : k ≤ 100) (hmx : m (Str.ofString "text") = some (.str x tx)) (hmr : m (Str.ofString "has_reject") = some (.bool rej)) (hx : ∀ (i c : Nat), x.cps[i]? = some c → Abn c) (hx6 : x.cps.size ≤ 6)
    (mP : (P9, oP) ∈ b2) (ret : ∀ h' tks m', Fr g L h' m' → h'.get? P9 = some oP → Q (.ret (.bool true)) { s with heap := h', toks := tks }) :
    wpAny (model prg w) (ktrTop 302 7 gd (Str.ofString "law") lawScope L a cd (cellsFrom (L + 1) lawScope.names []) []) (execs (lawAll.drop 6) (envX (Str.ofString "law") lawScope L a cd (cellsFrom (L + 1) lawScope.names []))) Q E s := by
  generalize hsc : lawScope = sc
  conv at hsc => lhs; whnf
  generalize hbo : List.drop 6 lawAll = bo
  conv at hbo => lhs; whnf
  subst hsc hbo
  have hrl : recursionLimit = 1000 := rfl
  have hcl : cLine = 9900 := rfl
  with_reducible refine no_raise ?_
  try dsimp only
  try k_fold
  wtm_at "k:go"
  rename_i sp spt kq hq1 hq2 sp0 sp1 hq3 lr hq4 lrl lrs hq5 FR NR
  k_dflt (refine for_src (h₀ := g) (by rfl) (by rfl) ?_)
  wtm_at "k:go"
  rename_i h5 tk5 t51 t52 t53 hr5 F5 N5 keep5
  obtain ⟨b3, hb3⟩ : ∃ b3 : Led, b3 = (pl, listOf #[.int (k + 1) kq] n0) :: b2 := ⟨_, rfl⟩
  rw [← hb3] at N5
  have sb2 : ∀ p ∈ b2, p ∈ b3 := by rw [hb3]; wtm_at "k:sub"
  have lr3 : ∀ p ∈ b3, @LT.lt Nat _ p.1 lr := by rw [hb3]; exact lrl
  have of3 : ∀ p ∈ b3, p.1 ≠ lr := fun p hp => Nat.ne_of_lt (lr3 p hp)
  have W3 := W9.mono sb2
  replace mB := sb2 _ mB
  replace mP := sb2 _ mP
  replace mA := sb2 _ mA
  have ent : News g L h5 ((lr, listOf (List.toArray []) 0) :: ([] ++ b3)) := N5
  clear N5 hb3 sb2 W9 I mT dT of5 lrl lrs
  try clear NR
  try clear FR
  first | delta Hold | ((try k_unmd); k_unfold; delta Hold) | (show Hold _; delta Hold)
  refine ⟨4, _, _, _, _, Src.range (n := 4) rfl hr5 (by decide) (by rfl), F5, ent, fun i m nx => ShV3P8 (fun (tl : Led) (rvs : List Value) (c : Nat) => nx = (lr, listOf (List.toArray rvs) c) :: (tl ++ b3)) (fun (tl : Led) (rvs : List Value) (c : Nat) => m (Str.ofString "rules") = some (.ref lr)) (fun (tl : Led) (rvs : List Value) (c : Nat) => m (Str.ofString "spot") = some (.int sp spt)) (fun (tl : Led) (rvs : List Value) (c : Nat) => m (Str.ofString "text") = some (.str x tx)) (fun (tl : Led) (rvs : List Value) (c : Nat) => m (Str.ofString "has_reject") = some (.bool rej)) (fun (tl : Led) (rvs : List Value) (c : Nat) => rvs.length ≤ i) (fun (tl : Led) (rvs : List Value) (c : Nat) => All2 (RuleL w tl) rvs (ruleBs rej sp i)) (fun (tl : Led) (rvs : List Value) (c : Nat) => Ap tl [lr]), fun _ _ _ _ => trivial, ?r0, ?rturn, ?rfin⟩
  case r0 => exact ⟨[], [], 0, rfl, rfl, rfl, hmx, hmr, Nat.le_refl _, .nil, Ap.nil⟩
  case rturn =>
    intro i v m₁ nx I0 oI h tk E' hi hP hJ F6 N6 off6
    obtain ⟨tl, rvs, c, rfl, hmu, hms, hmx', hmr', hvl, hall, hap⟩ := hJ
    obtain ⟨te, rfl⟩ := hP
    change Fr g L h _ at F6
    change News g L h _ at N6
    have z1 : @Ne Nat lr I0 := off6 _ List.mem_cons_self
    have z3 : ∀ p ∈ tl, p.1 ≠ I0 := fun p hp => off6 p (List.mem_cons_of_mem _ (List.mem_append_left _ hp))
    have z4 : ∀ p ∈ b3, p.1 ≠ I0 := fun p hp => off6 p (List.mem_cons_of_mem _ (List.mem_append_right _ hp))
    have z5 := hap.ne (b := lr) (by wtm_at "k:mem")
    clear ent F5
    cases rej
    · wtm_at "k:go"
      · skip
        rename_i xr dxr a1 a2 a3 a4 a5 hz1 hz2 FZ NZ lz llz lzz
        obtain ⟨al, NA, hR, hdr, hnl, hni⟩ : ∃ al : Led, News g L hz1 al ∧ RuleL w (al.take 6) (.ref xr) false ∧ al.drop 6 = (I0, oI) :: (lr, listOf (List.toArray rvs) c) :: (tl ++ b3) ∧ (∀ p ∈ al.take 6, p.1 ≠ lr) ∧ (∀ p ∈ al.take 6, p.1 ≠ I0) := ⟨_, NZ, ⟨xr, dxr, _, _, _, _, _, _, _, _, _, _, _, rfl, mem_at 0 rfl, mem_at 1 rfl, mem_at 3 rfl, .cons ⟨_, _, _, _, _, rfl, mem_at 4 rfl, mem_at 5 rfl⟩ .nil⟩, rfl, by dsimp only [List.take]; wtm_at "k:all", by dsimp only [List.take]; wtm_at "k:all"⟩
        have N1 : News g L hz1 ((I0, oI) :: (lr, listOf (List.toArray rvs) c) :: ((al.take 6 ++ tl) ++ b3)) := News.sub NA (by
          have e : al = al.take 6 ++ ((I0, oI) :: (lr, listOf (List.toArray rvs) c) :: (tl ++ b3)) := by rw [← hdr, List.take_append_drop]
          intro p hp
          rw [e]
          rcases List.mem_cons.mp hp with rfl | hp
          · exact List.mem_append_right _ List.mem_cons_self
          · rcases List.mem_cons.mp hp with rfl | hp
            · exact List.mem_append_right _ (List.mem_cons_of_mem _ List.mem_cons_self)
            · rcases List.mem_append.mp hp with hp | hp
              · rcases List.mem_append.mp hp with hp | hp
                · exact List.mem_append_left _ hp
                · exact List.mem_append_right _ (List.mem_cons_of_mem _ (List.mem_cons_of_mem _ (List.mem_append_left _ hp)))
              · exact List.mem_append_right _ (List.mem_cons_of_mem _ (List.mem_cons_of_mem _ (List.mem_append_right _ hp))))
        obtain ⟨tl9, htl9⟩ : ∃ tl9, tl9 = al.take 6 ++ tl := ⟨_, rfl⟩
        rw [← htl9] at N1
        have hR9 : RuleL w tl9 (.ref xr) false := hR.mono (by rw [htl9]; exact fun p hp => List.mem_append_left _ hp)
        have hs9 : ∀ p ∈ tl, p ∈ tl9 := by rw [htl9]; exact fun p hp => List.mem_append_right _ hp
        have hl9 : ∀ p ∈ tl9, p.1 ≠ lr := by rw [htl9]; exact List.forall_mem_append.mpr ⟨hnl, z5⟩
        have hi9 : ∀ p ∈ tl9, p.1 ≠ I0 := by rw [htl9]; exact List.forall_mem_append.mpr ⟨hni, z3⟩
        clear NA NZ hR htl9 hdr
        k_dflt (refine' append_K (by k_asm) N1 ?k3 ?_ ?z)
        case k3 => k_upd
        case z => (simp only [List.size_toArray]; rw [sizeLine_eq]; omega)
        intro h21 F21 N21
        rw [List.push_toArray] at N21
        wtm_at "k:go"
        refine TurnEnd.next F21 N21 ((lr, listOf (List.toArray (rvs ++ [.ref xr])) (c + 1)) :: (tl9 ++ b3)) (by wtm_at "k:sub") (List.forall_mem_cons.mpr ⟨z1, List.forall_mem_append.mpr ⟨hi9, z4⟩⟩) ⟨tl9, rvs ++ [.ref xr], c + 1, rfl, hmu, hms, hmx', hmr', by rw [List.length_append]; show rvs.length + 1 ≤ i + 1; omega, ?_, fun p hp b hb => by rw [List.mem_singleton.mp hb]; exact hl9 p hp⟩
        rw [ruleBs_succ, show (false && decide ((i : Int) = sp)) = false from rfl]
        exact (hall.mono fun _ _ => RuleL.mono hs9).snoc hR9
    · wtm_at "k:go"
      · skip
        rename_i xr dxr a1 a2 a3 a4 a5 hz1 hz2 FZ NZ lz llz lzz
        obtain ⟨al, NA, hR, hdr, hnl, hni⟩ : ∃ al : Led, News g L hz1 al ∧ RuleL w (al.take 8) (.ref xr) true ∧ al.drop 8 = (I0, oI) :: (lr, listOf (List.toArray rvs) c) :: (tl ++ b3) ∧ (∀ p ∈ al.take 8, p.1 ≠ lr) ∧ (∀ p ∈ al.take 8, p.1 ≠ I0) := ⟨_, NZ, ⟨xr, dxr, _, _, _, _, _, _, _, _, _, _, _, rfl, mem_at 0 rfl, mem_at 1 rfl, mem_at 3 rfl, .cons ⟨_, _, _, _, _, rfl, mem_at 6 rfl, mem_at 7 rfl⟩ (.cons ⟨_, _, _, _, _, rfl, mem_at 4 rfl, mem_at 5 rfl⟩ .nil)⟩, rfl, by dsimp only [List.take]; wtm_at "k:all", by dsimp only [List.take]; wtm_at "k:all"⟩
        have N1 : News g L hz1 ((I0, oI) :: (lr, listOf (List.toArray rvs) c) :: ((al.take 8 ++ tl) ++ b3)) := News.sub NA (by
          have e : al = al.take 8 ++ ((I0, oI) :: (lr, listOf (List.toArray rvs) c) :: (tl ++ b3)) := by rw [← hdr, List.take_append_drop]
          intro p hp
          rw [e]
          rcases List.mem_cons.mp hp with rfl | hp
          · exact List.mem_append_right _ List.mem_cons_self
          · rcases List.mem_cons.mp hp with rfl | hp
            · exact List.mem_append_right _ (List.mem_cons_of_mem _ List.mem_cons_self)
            · rcases List.mem_append.mp hp with hp | hp
              · rcases List.mem_append.mp hp with hp | hp
                · exact List.mem_append_left _ hp
                · exact List.mem_append_right _ (List.mem_cons_of_mem _ (List.mem_cons_of_mem _ (List.mem_append_left _ hp)))
              · exact List.mem_append_right _ (List.mem_cons_of_mem _ (List.mem_cons_of_mem _ (List.mem_append_right _ hp))))
        obtain ⟨tl9, htl9⟩ : ∃ tl9, tl9 = al.take 8 ++ tl := ⟨_, rfl⟩
        rw [← htl9] at N1
        have hR9 : RuleL w tl9 (.ref xr) true := hR.mono (by rw [htl9]; exact fun p hp => List.mem_append_left _ hp)
        have hs9 : ∀ p ∈ tl, p ∈ tl9 := by rw [htl9]; exact fun p hp => List.mem_append_right _ hp
        have hl9 : ∀ p ∈ tl9, p.1 ≠ lr := by rw [htl9]; exact List.forall_mem_append.mpr ⟨hnl, z5⟩
        have hi9 : ∀ p ∈ tl9, p.1 ≠ I0 := by rw [htl9]; exact List.forall_mem_append.mpr ⟨hni, z3⟩
        clear NA NZ hR htl9 hdr
        k_dflt (refine' append_K (by k_asm) N1 ?k3 ?_ ?z)
        case k3 => k_upd
        case z => (simp only [List.size_toArray]; rw [sizeLine_eq]; omega)
        intro h21 F21 N21
        rw [List.push_toArray] at N21
        wtm_at "k:go"
        refine TurnEnd.next F21 N21 ((lr, listOf (List.toArray (rvs ++ [.ref xr])) (c + 1)) :: (tl9 ++ b3)) (by wtm_at "k:sub") (List.forall_mem_cons.mpr ⟨z1, List.forall_mem_append.mpr ⟨hi9, z4⟩⟩) ⟨tl9, rvs ++ [.ref xr], c + 1, rfl, hmu, hms, hmx', hmr', by rw [List.length_append]; show rvs.length + 1 ≤ i + 1; omega, ?_, fun p hp b hb => by rw [List.mem_singleton.mp hb]; exact hl9 p hp⟩
        rw [ruleBs_succ, show (true && decide ((i : Int) = sp)) = true from by simp only [Bool.true_and]; exact decide_eq_true (by omega)]
        exact (hall.mono fun _ _ => RuleL.mono hs9).snoc hR9
      · skip
        rename_i xr dxr a1 a2 a3 a4 a5 hz1 hz2 FZ NZ lz llz lzz
        obtain ⟨al, NA, hR, hdr, hnl, hni⟩ : ∃ al : Led, News g L hz1 al ∧ RuleL w (al.take 6) (.ref xr) false ∧ al.drop 6 = (I0, oI) :: (lr, listOf (List.toArray rvs) c) :: (tl ++ b3) ∧ (∀ p ∈ al.take 6, p.1 ≠ lr) ∧ (∀ p ∈ al.take 6, p.1 ≠ I0) := ⟨_, NZ, ⟨xr, dxr, _, _, _, _, _, _, _, _, _, _, _, rfl, mem_at 0 rfl, mem_at 1 rfl, mem_at 3 rfl, .cons ⟨_, _, _, _, _, rfl, mem_at 4 rfl, mem_at 5 rfl⟩ .nil⟩, rfl, by dsimp only [List.take]; wtm_at "k:all", by dsimp only [List.take]; wtm_at "k:all"⟩
        have N1 : News g L hz1 ((I0, oI) :: (lr, listOf (List.toArray rvs) c) :: ((al.take 6 ++ tl) ++ b3)) := News.sub NA (by
          have e : al = al.take 6 ++ ((I0, oI) :: (lr, listOf (List.toArray rvs) c) :: (tl ++ b3)) := by rw [← hdr, List.take_append_drop]
          intro p hp
          rw [e]
          rcases List.mem_cons.mp hp with rfl | hp
          · exact List.mem_append_right _ List.mem_cons_self
          · rcases List.mem_cons.mp hp with rfl | hp
            · exact List.mem_append_right _ (List.mem_cons_of_mem _ List.mem_cons_self)
            · rcases List.mem_append.mp hp with hp | hp
              · rcases List.mem_append.mp hp with hp | hp
                · exact List.mem_append_left _ hp
                · exact List.mem_append_right _ (List.mem_cons_of_mem _ (List.mem_cons_of_mem _ (List.mem_append_left _ hp)))
              · exact List.mem_append_right _ (List.mem_cons_of_mem _ (List.mem_cons_of_mem _ (List.mem_append_right _ hp))))
        obtain ⟨tl9, htl9⟩ : ∃ tl9, tl9 = al.take 6 ++ tl := ⟨_, rfl⟩
        rw [← htl9] at N1
        have hR9 : RuleL w tl9 (.ref xr) false := hR.mono (by rw [htl9]; exact fun p hp => List.mem_append_left _ hp)
        have hs9 : ∀ p ∈ tl, p ∈ tl9 := by rw [htl9]; exact fun p hp => List.mem_append_right _ hp
        have hl9 : ∀ p ∈ tl9, p.1 ≠ lr := by rw [htl9]; exact List.forall_mem_append.mpr ⟨hnl, z5⟩
        have hi9 : ∀ p ∈ tl9, p.1 ≠ I0 := by rw [htl9]; exact List.forall_mem_append.mpr ⟨hni, z3⟩
        clear NA NZ hR htl9 hdr
        k_dflt (refine' append_K (by k_asm) N1 ?k3 ?_ ?z)
        case k3 => k_upd
        case z => (simp only [List.size_toArray]; rw [sizeLine_eq]; omega)
        intro h21 F21 N21
        rw [List.push_toArray] at N21
        wtm_at "k:go"
        refine TurnEnd.next F21 N21 ((lr, listOf (List.toArray (rvs ++ [.ref xr])) (c + 1)) :: (tl9 ++ b3)) (by wtm_at "k:sub") (List.forall_mem_cons.mpr ⟨z1, List.forall_mem_append.mpr ⟨hi9, z4⟩⟩) ⟨tl9, rvs ++ [.ref xr], c + 1, rfl, hmu, hms, hmx', hmr', by rw [List.length_append]; show rvs.length + 1 ≤ i + 1; omega, ?_, fun p hp b hb => by rw [List.mem_singleton.mp hb]; exact hl9 p hp⟩
        rw [ruleBs_succ, show (true && decide ((i : Int) = sp)) = false from by simp only [Bool.true_and]; exact decide_eq_false (by omega)]
        exact (hall.mono fun _ _ => RuleL.mono hs9).snoc hR9
  case rfin =>
    intro h22 tk22 m₂ nx F22 N22 hJ
    obtain ⟨tl, rvs, c, rfl, hmu, hms, hmx', hmr', hvl, hall, hap⟩ := hJ
    change Fr g L h22 _ at F22
    change News g L h22 _ at N22
    obtain ⟨b4, hb4⟩ : ∃ b4 : Led, b4 = (lr, listOf (List.toArray rvs) c) :: (tl ++ b3) := ⟨_, rfl⟩
    rw [← hb4] at N22
    have sb3 : ∀ p ∈ b3, p ∈ b4 := by rw [hb4]; wtm_at "k:sub"
    have mlr : (lr, listOf (List.toArray rvs) c) ∈ b4 := by rw [hb4]; wtm_at "k:mem"
    have hrules : All2 (RuleL w b4) rvs (ruleBs rej sp 4) := hall.mono fun _ _ => RuleL.mono (by rw [hb4]; wtm_at "k:sub")
    have W4 := W3.mono sb3
    replace mB := sb3 _ mB
    replace mP := sb3 _ mP
    replace mA := sb3 _ mA
    clear ent F5 hb4 sb3 hall W3 of3 lr3 hap
    obtain ⟨mdo, hdo, hdlo, hcut, hfew, hnodup, mla, AX0, AX1, HH0, HH1⟩ := W4
    wtm_at "k:go"
    k_dflt (refine comp_U (h₀ := g) (L := L) (by with_unfolding_all rfl) (by decide) (by rfl) (by decide) (by rfl) ?_)
    wtm_at "k:go"
    rename_i ct hct FC NC ltc lsc
    obtain ⟨ta, tb, NC⟩ : ∃ ta tb, News g L hct ((ct, tupOf [.int 0 ta, .int 1 tb] 0) :: b4) := ⟨_, _, NC⟩
    obtain ⟨b5, hb5⟩ : ∃ b5 : Led, b5 = (ct, tupOf [.int 0 ta, .int 1 tb] 0) :: b4 := ⟨_, rfl⟩
    rw [← hb5] at NC
    have mct : (ct, tupOf [.int 0 ta, .int 1 tb] 0) ∈ b5 := by rw [hb5]; wtm_at "k:mem"
    have sb4 : ∀ p ∈ b4, p ∈ b5 := by rw [hb5]; wtm_at "k:sub"
    have mA5 := sb4 _ mA
    have mla5 := sb4 _ mla
    clear hb5 ltc lsc
    first | delta Hold | ((try k_unmd); k_unfold; delta Hold) | (show Hold _; delta Hold)
    refine ⟨2, _, _, _, _, Src.tup rfl NC mct, by rw [sizeLine_eq]; exact Nat.le_of_ble_eq_true rfl, FC, NC, fun i ys nx => ShV2P4 (fun (tl : Led) (kvs : List (Int × Value)) => nx = tl ++ b5) (fun (tl : Led) (kvs : List (Int × Value)) => kvs.length = i) (fun (tl : Led) (kvs : List (Int × Value)) => PairsL nx ys kvs) (fun (tl : Led) (kvs : List (Int × Value)) => (∀ (j : Nat) (kv : Int × Value), kvs[j]? = some kv → kv.1 = (j : Int) ∧ DfaL w nx kv.2 (if j = 0 then r0 else r1) (if j = 0 then t0 else t1))), ?hs, ?h0, ?hturn, ?hfin⟩
    case hs =>
      rintro _ _ _ ⟨_, _, rfl, _⟩
      exact List.mem_append_right _ mct
    case h0 => exact ⟨[], [], rfl, rfl, .nil, fun _ _ h => by simp at h⟩
    case hturn =>
      intro i v ys nx I0 oI C0 oC D0 mm h tk E' hi hP hJ hC hx9 F4 N4 off4 ne4
      obtain ⟨tl, kvs9, rfl, hkl, hpairs, hdfa⟩ := hJ
      have key : ShV5P5 (fun (t : Tok) (ak : Addr) (rvk : Value) (tvk : Value) (nk : Nat) => v = .int (i : Int) t) (fun (t : Tok) (ak : Addr) (rvk : Value) (tvk : Value) (nk : Nat) => [v0, v1][Int.toNat (i : Int)]? = some (.ref ak)) (fun (t : Tok) (ak : Addr) (rvk : Value) (tvk : Value) (nk : Nat) => (ak, tupOf [rvk, tvk] nk) ∈ b4) (fun (t : Tok) (ak : Addr) (rvk : Value) (tvk : Value) (nk : Nat) => RowsL b4 rvk (if i = 0 then r0 else r1)) (fun (t : Tok) (ak : Addr) (rvk : Value) (tvk : Value) (nk : Nat) => TagsL b4 tvk (if i = 0 then t0 else t1)) := by
        obtain ⟨a0, rv0, tv0, n0', e0, m0', R0, G0⟩ := AX0
        obtain ⟨a1, rv1, tv1, n1', e1, m1', R1, G1⟩ := AX1
        obtain rfl | rfl : i = 0 ∨ i = 1 := by omega
        · exact ⟨_, a0, rv0, tv0, n0', by simpa using hP.symm, by rw [e0]; rfl, m0', R0, G0⟩
        · exact ⟨_, a1, rv1, tv1, n1', by simpa using hP.symm, by rw [e1]; rfl, m1', R1, G1⟩
      obtain ⟨tki, ak, rvk, tvk, nk, rfl, hak, mak, Rk, Gk⟩ := key
      replace mak := sb4 _ mak
      replace Rk := Rk.mono sb4
      replace Gk := Gk.mono sb4
      try clear NC FC N22 F22
      wtm_at "k:go"
      rename_i xd dxd q1 q2 hq tq ll ltx lsx D1 hD FD ND ltD lsD
      have sbt : ∀ p ∈ tl ++ b5, p ∈ (D1, tupOf [.int (i : Int) tki, .ref xd] 0) :: (xd, instObj 146 dxd) :: (dxd, dictOf [att w "rows" q1 rvk, att w "tags" q2 tvk] 2) :: (tl ++ b5) := by wtm_at "k:sub"
      have sb5 : ∀ p ∈ b5, p ∈ (D1, tupOf [.int (i : Int) tki, .ref xd] 0) :: (xd, instObj 146 dxd) :: (dxd, dictOf [att w "rows" q1 rvk, att w "tags" q2 tvk] 2) :: (tl ++ b5) := by wtm_at "k:sub"
      refine CompEnd.intro FD ND ((D1, tupOf [.int (i : Int) tki, .ref xd] 0) :: (xd, instObj 146 dxd) :: (dxd, dictOf [att w "rows" q1 rvk, att w "tags" q2 tvk] 2) :: (tl ++ b5)) (by wtm_at "k:sub") ⟨⟨Nat.ne_of_gt lsD.2.2.1, Nat.ne_of_gt lsD.2.2.2.1, Nat.ne_of_gt lsD.2.2.2.2.1⟩, ⟨Nat.ne_of_gt (Nat.lt_trans lsx.1 ll), Nat.ne_of_gt (Nat.lt_trans lsx.2.1 ll), Nat.ne_of_gt (Nat.lt_trans lsx.2.2.1 ll)⟩, ⟨Nat.ne_of_gt lsx.1, Nat.ne_of_gt lsx.2.1, Nat.ne_of_gt lsx.2.2.1⟩, off4⟩ trivial ⟨(D1, tupOf [.int (i : Int) tki, .ref xd] 0) :: (xd, instObj 146 dxd) :: (dxd, dictOf [att w "rows" q1 rvk, att w "tags" q2 tvk] 2) :: tl, kvs9 ++ [((i : Int), .ref xd)], rfl, by simp [hkl], (PairsL.mono sbt hpairs).snoc ⟨D1, tki, 0, rfl, List.mem_cons_self⟩, ?_⟩
      intro j kv hj
      rcases Nat.lt_or_ge j kvs9.length with hlt | hge
      · rw [List.getElem?_append_left hlt] at hj
        have := hdfa j kv hj
        exact ⟨this.1, this.2.mono sbt⟩
      · rw [List.getElem?_append_right hge] at hj
        have hj0 : j = i := by
          have := (List.getElem?_eq_some_iff.mp hj).1
          simp at this
          omega
        subst hj0
        rw [hkl, Nat.sub_self] at hj
        obtain rfl : ((j : Int), Value.ref xd) = kv := by simpa using hj
        exact ⟨rfl, xd, dxd, rvk, tvk, q1, q2, rfl, List.mem_cons_of_mem _ List.mem_cons_self, List.mem_cons_of_mem _ (List.mem_cons_of_mem _ List.mem_cons_self), Rk.mono sb5, Gk.mono sb5⟩
    case hfin =>
      intro ys nx D h9 tk9 hJ F9 N9 o19
      obtain ⟨tl, kvs9, rfl, hkl, hpairs, hdfa⟩ := hJ
      have o20 := Off1.all o19
      have hnd9 : (kvs9.map (·.1)).Nodup := by
        rcases kvs9 with _ | ⟨a, _ | ⟨b, _ | _⟩⟩
        · exact .nil
        · simp at hkl
        · have h1 := (hdfa 0 a rfl).1
          have h2 := (hdfa 1 b rfl).1
          simp [h1, h2]
        · simp at hkl
      have hkz : kvs9.length ≤ 1000 := by omega
      have hp9 : PairsL ((D, lst ys) :: (tl ++ b5)) ys kvs9 := PairsL.mono (fun p hp => List.mem_cons_of_mem _ hp) hpairs
      try clear NC FC N22 F22
      wtm_at "k:go"
      rename_i Dh hDh tkh oh hdh hloh lth hh3 FH NH
      obtain ⟨b6, hb6⟩ : ∃ b6 : Led, b6 = (Dh, oh) :: (D, lst ys) :: (tl ++ b5) := ⟨_, rfl⟩
      rw [← hb6] at NH
      have sbt : ∀ p ∈ tl ++ b5, p ∈ b6 := by rw [hb6]; wtm_at "k:sub"
      have sb5 : ∀ p ∈ b4, p ∈ b6 := fun p hp => sbt _ (List.mem_append_right _ (sb4 p hp))
      have mDh : (Dh, oh) ∈ b6 := by rw [hb6]; wtm_at "k:mem"
      have V6 : HeldL w b6 (.ref Dh) r0 t0 r1 t1 := by
        rcases kvs9 with _ | ⟨⟨ka, va⟩, _ | ⟨⟨kb, vb⟩, _ | _⟩⟩
        · simp at hkl
        · simp at hkl
        · obtain ⟨e1, d1⟩ := hdfa 0 (ka, va) rfl
          obtain ⟨e2, d2⟩ := hdfa 1 (kb, vb) rfl
          obtain rfl : ka = 0 := e1
          obtain rfl : kb = 1 := e2
          exact ⟨Dh, oh, va, vb, rfl, mDh, hdh, hloh, d1.mono sbt, d2.mono sbt⟩
        · simp at hkl
      have hrules6 := hrules.mono fun _ _ => RuleL.mono sb5 (w := w)
      replace mlr := sb5 _ mlr
      replace mB := sb5 _ mB
      replace mP := sb5 _ mP
      replace mA := sb5 _ mA
      replace mdo := sb5 _ mdo
      replace mla := sb5 _ mla
      replace AX0 := AX0.mono sb5
      replace AX1 := AX1.mono sb5
      have hcut6 := hcut.mono fun _ _ => CutV.mono sb5
      clear hb6 sbt hpairs hdfa hp9 hkz hnd9 o20 o19 hrules hcut hdh hloh lth sb5 sb4 mA5 mla5 mct
      wtm_at "k:go"
      k_dflt (refine comp_U (h₀ := g) (L := L) (by with_unfolding_all rfl) (by decide) (by rfl) (by decide) (by rfl) ?_)
      wtm_at "k:go"
      first | delta Hold | ((try k_unmd); k_unfold; delta Hold) | (show Hold _; delta Hold)
      refine ⟨kvs.length, _, _, _, _, Src.keys rfl NH mdo hdo hdlo, by rw [sizeLine_eq]; omega, FH, NH, fun i ys nx => ShV2P5 (fun (tl : Led) (ms : List (Int × Value)) => nx = tl ++ b6) (fun (tl : Led) (ms : List (Int × Value)) => ms.length = i) (fun (tl : Led) (ms : List (Int × Value)) => PairsL nx ys ms) (fun (tl : Led) (ms : List (Int × Value)) => All2 (CutI w nx) ms (cts.take i)) (fun (tl : Led) (ms : List (Int × Value)) => ms.map (·.1) = (kvs.take i).map (·.1)), ?ms, ?m0, ?mturn, ?mfin⟩
      case ms =>
        rintro _ _ _ ⟨_, _, rfl, _⟩
        exact List.mem_append_right _ mdo
      case m0 => exact ⟨[], [], rfl, rfl, .nil, .nil, rfl⟩
      case mturn =>
        intro i v ys nx I0 oI C0 oC D0 mm h tk E' hi hP hJ hC hx9 F4 N4 off4 ne4
        obtain ⟨tl, ms, rfl, hml, hpairs, hcuts, hmap⟩ := hJ
        obtain ⟨kk, xv, hkx, hkis⟩ := hP
        obtain ⟨tkk, rfl⟩ := int_of_is hkis
        obtain ⟨cc, hcc, e1, aa, ta1, ta2, na, e2, hma⟩ := hcut6.getL i _ hkx
        obtain ⟨kc, bc, wc⟩ := cc
        obtain rfl : kk = kc := e1
        obtain rfl : xv = .ref aa := e2
        have hva := valueAt_at hnodup hkx
        try clear NH FH
        wtm_at "k:go"
        rename_i xd dxd q1 q2 q3 q4 hq tq ll ltx lsx D1 hD FD ND ltD lsD
        obtain ⟨e1L, he1L⟩ : ∃ e1L : Led, e1L = (D1, tupOf [.int kk tkk, .ref xd] 0) :: (xd, instObj 175 dxd) :: (dxd, dictOf [att w "way" q1 (.str (wayStr bc) ta1), att w "length" q2 (.int wc ta2), att w "front" q3 .none, att w "back" q4 .none] 4) :: (tl ++ b6) := ⟨_, rfl⟩
        have sbt : ∀ p ∈ tl ++ b6, p ∈ e1L := by rw [he1L]; wtm_at "k:sub"
        have hms2 : ms ++ [(kk, Value.ref xd)] = ms ++ [(kk, Value.ref xd)] := rfl
        refine CompEnd.intro FD ND e1L (by rw [he1L]; wtm_at "k:sub") (by rw [he1L]; exact ⟨⟨Nat.ne_of_gt lsD.2.2.1, Nat.ne_of_gt lsD.2.2.2.1, Nat.ne_of_gt lsD.2.2.2.2.1⟩, ⟨Nat.ne_of_gt (Nat.lt_trans lsx.1 ll), Nat.ne_of_gt (Nat.lt_trans lsx.2.1 ll), Nat.ne_of_gt (Nat.lt_trans lsx.2.2.1 ll)⟩, ⟨Nat.ne_of_gt lsx.1, Nat.ne_of_gt lsx.2.1, Nat.ne_of_gt lsx.2.2.1⟩, off4⟩) trivial ⟨(D1, tupOf [.int kk tkk, .ref xd] 0) :: (xd, instObj 175 dxd) :: (dxd, dictOf [att w "way" q1 (.str (wayStr bc) ta1), att w "length" q2 (.int wc ta2), att w "front" q3 .none, att w "back" q4 .none] 4) :: tl, ms ++ [(kk, .ref xd)], he1L, by simp [hml], (PairsL.mono sbt hpairs).snoc ⟨D1, tkk, 0, rfl, by rw [he1L]; exact List.mem_cons_self⟩, ?_, ?_⟩
        · rw [List.take_add_one, hcc]
          exact (hcuts.mono fun _ _ => CutI.mono sbt).snoc ⟨rfl, xd, dxd, q1, q2, q3, q4, ta1, ta2, rfl, by rw [he1L]; exact List.mem_cons_of_mem _ List.mem_cons_self, by rw [he1L]; exact List.mem_cons_of_mem _ (List.mem_cons_of_mem _ List.mem_cons_self)⟩
        · rw [List.take_add_one, hkx, List.map_append, List.map_append, hmap]
          rfl
      case mfin =>
        intro ys nx D h9 tk9 hJ F9 N9 o19
        obtain ⟨tl, ms, rfl, hml, hpairs, hcuts, hmap⟩ := hJ
        have o20 := Off1.all o19
        have hcl9 := All2.length hcut6
        rw [List.take_of_length_le (by omega)] at hcuts
        rw [List.take_of_length_le (by omega)] at hmap
        have hnd9 : (ms.map (·.1)).Nodup := by rw [hmap]; exact hnodup
        have hkz : ms.length ≤ 1000 := by omega
        have hp9 : PairsL ((D, lst ys) :: (tl ++ b6)) ys ms := PairsL.mono (fun p hp => List.mem_cons_of_mem _ hp) hpairs
        try clear NH FH
        wtm_at "k:go"
        rename_i xt tlt ht tst CT ht2 sx nb nvs nc pl9 tl9 tls hs9 tss SS e1 e2 IN hf FZ NZ
        rw [ruleBs_any rej sp sp0 sp1] at CT
        exact law_tail2 B X T hbig FZ NZ rfl rfl hmx' hmr' (SS.mono (by wtm_at "k:sub")) ((CT.tab).mono (by wtm_at "k:sub")) ⟨_, _, ms, rfl, by wtm_at "k:mem", by assumption, by assumption, hcuts.mono fun _ _ => CutI.mono (by wtm_at "k:sub")⟩ (V6.mono (by wtm_at "k:sub")) (by wtm_at "k:mem") IN (by wtm_at "k:mem") (by wtm_at "k:mem") (AX0.mono (by wtm_at "k:sub")) (AX1.mono (by wtm_at "k:sub")) HH0 HH1 ⟨d, o, kvs, rfl, by wtm_at "k:mem", hdo, hdlo, hcut6.mono fun _ _ => CutV.mono (by wtm_at "k:sub")⟩ (by wtm_at "k:mem") dB (by wtm_at "k:mem") dA hx hx6 (by wtm_at "k:mem") ret
end
theorem lines22 : True := by
  w_top off
  k_with_none
  k_with "k:k1" => ((first | (k_unfold; (try dsimp only)) | (k_end; wrow_close) | walk1 | (dsimp only; walk1) | (leave1; walk_say "STEP leave1"; try dsimp only) | fail "no step"))
  k_with "k:mem" => (first | exact List.mem_cons_self | ktr_member | (refine List.mem_cons_of_mem _ ?_; wtm_at "k:mem") | (refine List.mem_append_left _ ?_; wtm_at "k:mem") | (refine List.mem_append_right _ ?_; wtm_at "k:mem"))
  k_with "k:sub" => (first | with_reducible exact sub_refl | with_reducible assumption | with_reducible exact sub_nil | (with_reducible refine sub_of_cons ?_ ?_; (focus (wtm_at "k:mem")); wtm_at "k:sub") | (with_reducible refine sub_of_app ?_ ?_; (focus (wtm_at "k:sub")); wtm_at "k:sub") | (with_reducible refine sub_cons ?_; wtm_at "k:sub") | (with_reducible refine sub_appl ?_; wtm_at "k:sub") | (with_reducible refine sub_appr ?_; wtm_at "k:sub"))
  k_with "k:front" => (first | exact Front.head | exact Front.tail (by wtm_at "k:front") | exact Front.app (by wtm_at "k:front"))
  k_with "eval Name" => ((k_here; (fail_if_success (fail_if_success ((with_reducible refine loc_first ?_ ?_); (focus (k_dflt rfl))))); k_dflt (refine' nameX_L (by k_asm) (by first | rfl | assumption) ?_ (by rfl) (by rfl); k_whole)))
  k_with "eval Name" => ((k_here; (with_reducible show wpAny _ _ (eval (Expr.Name _ _) (envX _ _ _ _ _ _)) _ _ _); k_dflt (first
  | (refine' nameX_L (by k_asm) (by first | rfl | assumption) ?_ (by rfl) (by rfl); k_whole)
  | (refine' nameX_F (by k_asm) (by rfl) (by k_mem) (by k_asm) ?_ (by rfl) (by rfl); k_whole)
  | (refine' nameX_C (by k_asm) (by rfl) (by k_mem) (by k_asm) ?_ (by rfl) (by rfl); k_whole)
  | (refine' nameX_K (by k_asm) (by k_asm) (by k_asm) (by k_is) ?_ (by rfl) (by rfl); k_whole)
  | (refine' nameX_B (by k_asm) (by k_asm) (by k_asm) (by k_is) (by boot_fast) (by decide) ?_ (by rfl) (by rfl); k_whole))))
  k_with "k:all" => (first | with_reducible assumption | exact List.forall_mem_nil _ | (with_reducible refine List.forall_mem_cons.mpr ⟨?_, ?_⟩; (focus k_ne); wtm_at "k:all") | (with_reducible refine List.forall_mem_append.mpr ⟨?_, ?_⟩; (focus (wtm_at "k:all")); wtm_at "k:all") | exact Ap.ne (by with_reducible assumption) (by wtm_at "k:mem") | exact lts_ne (by with_reducible assumption) (by omega) | exact gts_ne (by with_reducible assumption) (by omega) | exact lts_sub_ne (by with_reducible assumption) (by wtm_at "k:sub"))
  k_with "callWith ref" => ((k_here; k_dflt (refine' callWith_F (TakeIn.fnAt (by k_asm) (by assumption) (by wtm_at "k:sub")) ?_)))
  k_with "And" => (((with_reducible show FnAt _ _ ∧ _); refine' ⟨TakeIn.fnAt (by k_asm) (by assumption) (by wtm_at "k:sub"), ?_⟩; try dsimp only [List.nil_append, List.cons_append]))
  k_with "call ref" => ((k_here; k_dflt (refine' take_call (by assumption) (by k_asm) (by k_asm) (by k_asm) (by k_asm) (by k_asm) (by wtm_at "k:front") (by wtm_at "k:sub") (by wtm_at "k:all") (by first | assumption | rfl) (by assumption) (by omega) (by omega) (by omega) (by omega) (by omega) (by omega) ?_); intro _ _ _ _ _ _ _ _ _; (try k_sweep)))
  k_with "k:haltX" => ((with_reducible show wpAny _ _ (exec (Stmt.Assign _ (Expr.ListComp _ _ _ _) _) _) _ _ _))
  k_with "k:haltX" => ((with_reducible show wpAny _ _ (exec (Stmt.For _ _ _ _ _) _) _ _ _))
  k_with "k:haltE" => ((with_reducible show wpAny _ _ (eval (Expr.ListComp _ _ _ _) _) _ _ _))
  k_with "k:halt" => (wtm_at "k:haltO")
  k_with "k:halt" => (wtm_at "k:haltE")
  k_with "k:halt" => (wtm_at "k:haltX")
  k_with "k:go" => ((try k_fold); repeat' ((fail_if_success (wtm_at "k:halt")); wtm_at "k:k1"))
  k_with "k:haltO" => ((with_reducible show LCg.CompEnd _ _ _ _ _ _ _ _ _ _ _ _ _ _))
  k_with "k:haltO" => ((with_reducible show TurnEnd _ _ _ _ _ _ _ _ _))
  k_with "call type:tuple" => ((k_here; (with_reducible show wpAny _ _ (call (Value.type _) [Value.ref _]) _ _ _); k_dflt (refine' kde_tupleOf (by k_asm) (by k_asm) (by exact News.isList (by k_asm) (by k_mem)) (by ((have hq9 := IntsAre.length (by assumption)); (simp only [List.size_toArray]); omega)) (by rfl) ?_; k_whole); intro _ _ _ _ l1; (try k_lt l1); (try k_sweep)); (try (revert l1; intro _)))
  k_with "k:haltE" => ((with_reducible show wpAny _ _ (call (Value.builtin "list.append") _) _ _ _))
  k_with "subscriptTail Attribute" => ((k_here; k_dflt (refine kba_turn (value' := PySem.Expr.Name (PySem.Str.ofString "_") ⟨0, 0, 0, 0⟩) (fun _ => rfl) ?_)))
  k_with "subscriptTail Subscript" => ((k_here; k_dflt (refine kba_turn (value' := PySem.Expr.Name (PySem.Str.ofString "_") ⟨0, 0, 0, 0⟩) (fun _ => rfl) ?_)))
  k_with "subscriptTail" => (wtm_at "k:fsub")
  k_with "subscriptTail Name Name ref int" => (wtm_at "k:fsub")
  k_with "subscriptTail Name Name str int" => (wtm_at "k:fsub")
  k_with "subscriptTail Name Name ref str" => (wtm_at "k:fsub")
  k_with "subscriptTail Name Constant ref int" => (wtm_at "k:fsub")
  k_with "subscriptTail Name Constant str int" => (wtm_at "k:fsub")
  k_with "subscriptTail Name Constant ref str" => (wtm_at "k:fsub")
  k_with "subscriptTail Name BinOp ref int" => (wtm_at "k:fsub")
  k_with "subscriptTail Name BinOp str int" => (wtm_at "k:fsub")
  k_with "subscriptTail Name BinOp ref str" => (wtm_at "k:fsub")
  k_with "execs cons" => ((k_here; (with_reducible refine gen_toks ?_); (intro (tk : Nat))))
  k_with "execs nil" => ((k_here; (with_reducible refine gen_toks ?_); (intro (tk : Nat))))
  k_with "k:haltO" => ((with_reducible show Hold _))
  k_with "k:fsub" => ((k_here; (with_reducible show wpAny _ _ (subscriptTail (PySem.Expr.Tuple _ _ _) _ (Value.ref _) (Value.int _ _)) _ _ _); k_dflt (refine' way_item (by k_asm) (by k_mem) (by omega) (by omega) ?_); intro _ _))
  k_with "setItem ref int" => ((k_here; (with_reducible show wpAny _ _ (setItem (Value.ref _) (Value.int _ _) (Value.ref _)) _ _ _); k_dflt (refine' kda_set (knd := PySem.intKind _ _) (by k_asm) (by k_asm) (by k_updF) (by assumption) (by exact intKind_is _ _ _ _) (by (rw [sizeLine_eq]; omega)) ?_); intro _ _ _ N9 D9; (try dsimp only at N9)); revert N9 D9; intro _ _)
  k_with "call ref" => ((k_here; k_dflt (refine' auto_call (by assumption) (by k_asm) (by k_asm) (by k_asm) (by k_asm) (by k_asm) (by wtm_at "k:front") (by wtm_at "k:sub") (by wtm_at "k:all") (by first | assumption | rfl) (by assumption) (by omega) (by omega) (by omega) (by omega) ?_); intro _ _ _ _ _ _ _ _ _ _ _ _ _ _ _; (try k_sweep)))
  k_with "k:fsub" => ((k_here; (with_reducible show wpAny _ _ (subscriptTail _ _ (Value.str _ _) (Value.int _ _)) _ _ _); k_dflt (refine' sign_item (by omega) (by omega) ?_); intro _ _ _ _))
  k_with "call builtin:str.join" => ((k_here; k_dflt (refine' join_call (by k_asm) (by k_mem) (by assumption) (by assumption) ?_); intro _ _))
  k_with "k:haltX" => ((with_reducible show wpAny _ _ (exec (Stmt.Assign _ (PySem.Expr.Call (PySem.Expr.Attribute (PySem.Expr.Constant _ _ _) _ _) _ _ _) _) _) _ _ _))
  trivial
section
theorem ghost_seer {tabs : List (Addr × Addr)} {h₁ : Heap} (hT : TabsAt tabs h₁) (x : h₁.NoSeer) : (ghostOf h₁ tabs).NoSeer where
  statics := let ⟨mc, a, b⟩ := x.statics; ⟨mc, ghost_ns hT a, b⟩
  mods := let ⟨mc, a, b⟩ := x.mods; ⟨mc, ghost_ns hT a, b⟩
  imp := let ⟨mc, a, b⟩ := x.imp; ⟨mc, ghost_ns hT a, b⟩
  main := let ⟨mg, bm, ob, a, b, c, d, e⟩ := x.main; ⟨mg, bm, ob, ghost_ns hT a, b, ghost_get hT c (fun q => by rw [q] at d; cases d), d, e⟩
theorem auto_call {w : World} {dp un : Nat} {gd : Option (List Code)} {cn : Str} {cs : Scope} {a : Addr} {ccd : Value} {cl : List (Str × Addr)} {outer : List Env} {A₀ : Around} {base h₀ : Heap} {L : Addr} {m mg mb : Str → Option Value} {mean : ExcName → Option Value} {tP : Program} {tL : List Str}
    {news₀ cur rest : Led} {s : Shared} {Q E : Value → Shared → Prop} {f pl : Addr} {k : Int} {tk n : Nat}
    (I : TakeIn news₀ (.ref f) pl) (B : Below A₀ base outer h₀) (F : Fr h₀ L s.heap m) (X : (hd.heap_1 w.params).In h₀) (N : News h₀ L s.heap cur) (T : Top tP tL mean mg mb h₀) (fr : Front (pl, listOf #[.int k tk] n) cur rest) (sub : ∀ p ∈ news₀, p ∈ rest) (off : ∀ p ∈ rest, p.1 ≠ pl)
    (hk : cs.kind = .function) (Sr : h₀.NoSeer) (hdp : dp + 250 < recursionLimit) (hun : un + 500 < cLine) (hk0 : 0 ≤ k) (hk1 : k ≤ 400)
    (ret : ∀ v k' tk' tl rows tags h' tks, k ≤ k' → k' ≤ k + 21 → AutoOk rows tags → AutoL tl v rows tags → Fr h₀ L h' m → News h₀ L h' ((pl, listOf #[.int k' tk'] n) :: (tl ++ rest)) → Ap tl (pl :: rest.map (·.1)) → Q v { s with heap := h', toks := tks }) :
    wpAny (model prg w) (ktrTop dp un gd cn cs L a ccd cl outer) (call (.ref 779) [.ref f]) Q E s :=
  wpAny_call (auto_spec B F X (fr.news N) T hk Sr hdp hun (I.mono sub) off hk0 hk1 ret)
theorem glue_fold (cs : List Nat) : ∀ acc : Array Nat, (cs.map fun c => (⟨#[c]⟩ : Str)).foldl (fun acc p => acc ++ (Str.ofString "").cps ++ p.cps) acc = acc ++ cs.toArray := by
  have e : (Str.ofString "").cps = #[] := by decide +kernel
  induction cs with
  | nil => intro acc; simp
  | cons c r ih =>
    intro acc
    rw [List.map_cons, List.foldl_cons, ih, e]
    simp
theorem join_signs (cs : List Nat) : Txt.join (Str.ofString "") (cs.map fun c => (⟨#[c]⟩ : Str)) = ⟨cs.toArray⟩ := by
  unfold Txt.join Builtin.Str.glued
  cases cs with
  | nil => rfl
  | cons c r =>
    congr 1
    rw [List.map_cons, List.drop_one, List.tail_cons, List.headD_cons]
    rw [glue_fold]
    simp
theorem join_call {w : World} {A : Around} {E : Value → Shared → Prop} {s : Shared} {h₀ : Heap} {L : Addr} {news : Led} {Q : Value → Shared → Prop} {D : Addr} {vs : List Value} {n t : Nat} {cs : List Nat} (N : News h₀ L s.heap news) (hm : (D, listOf (List.toArray vs) n) ∈ news) (hi : StrsAre vs (cs.map fun c => (⟨#[c]⟩ : Str))) (hz : cs.length ≤ 100)
    (h : ∀ t' k, Q (.str ⟨cs.toArray⟩ t') { s with toks := k }) : wpAny (model prg w) A (call (.builtin "str.join") [.str (Str.ofString "") t, .ref D]) Q E s := by
  refine join_listC (News.isList N hm) (by simpa using hi) (by decide +kernel) ?_ fun t' k => ?_
  · rw [List.map_map, List.length_map]
    have : ((cs.map (Str.length ∘ fun c => (⟨#[c]⟩ : Str))).sum) = cs.length := by
      clear hi hz h
      induction cs with
      | nil => rfl
      | cons c r ih => rw [List.map_cons, List.sum_cons, ih, List.length_cons]; show 1 + r.length = r.length + 1; omega
    rw [this]
    omega
  · rw [join_signs]
    exact h t' k
theorem strs_snoc {vs : List Value} {ys : List Str} {y : Str} {t : Tok} (h : StrsAre vs ys) : StrsAre (vs ++ [.str y t]) (ys ++ [y]) := by
  induction h with
  | nil => exact .cons _ _ .nil
  | cons y t _ ih => exact .cons _ _ ih
theorem law_tail_at {sc : Scope} {bo : List Stmt} {w : World} {g : Heap} {L a : Addr} {cd : Value} {gd : Option (List Code)} {base : Heap} {A₀ : Around} {mg mb : Str → Option Value} {mean : ExcName → Option Value} {tP : Program} {tL : List Str} {m : Str → Option Value} {s : Shared} {Q : Flow → Shared → Prop} {E : Value → Shared → Prop}
    {P9 : Addr} {oP : Obj} {pl fa d la : Addr} {k : Int} {tk n0 : Nat} {b2 : Led} {oT oB oA : Obj} {v0 v1 : Value} {o : Obj} {kvs : List (Int × Value)} {cts : List (Int × Bool × Int)} {r0 t0 r1 t1 : List (List Int)} {x : Str} {tx : Tok} {rej : Bool}
    (hsc : lawScope = sc) (hbo : lawAll.drop 6 = bo) (B : Below A₀ base [] g) (X : (hd.heap_1 w.params).In g) (T : Top tP tL mean mg mb g) (Sr : g.NoSeer) (hbig : sysModules < g.objs.size) (F : Fr g L s.heap m) (N : News g L s.heap ((pl, listOf #[.int k tk] n0) :: b2))
    (mT : (L + 1, oT) ∈ b2) (dT : oT.data = .cell (some (.ref fa))) (mB : (L + 1 + 1, oB) ∈ b2) (dB : oB.data = .cell (some (.ref d))) (mA : (L + 1 + 1 + 1, oA) ∈ b2) (dA : oA.data = .cell (some (.ref la)))
    (W9 : Drawn9 w b2 d la v0 v1 o kvs cts r0 t0 r1 t1) (I : TakeIn b2 (.ref fa) pl) (of5 : ∀ p ∈ b2, p.1 ≠ pl) (hk0 : 1 ≤ k) (hk1 : k ≤ 100) (hmx : m (Str.ofString "text") = some (.str x tx)) (hmr : m (Str.ofString "has_reject") = some (.bool rej)) (hx : ∀ (i c : Nat), x.cps[i]? = some c → Abn c) (hx6 : x.cps.size ≤ 6)
    (mP : (P9, oP) ∈ b2) (ret : ∀ h' tks m', Fr g L h' m' → h'.get? P9 = some oP → Q (.ret (.bool true)) { s with heap := h', toks := tks }) :
    wpAny (model prg w) (ktrTop 302 7 gd (Str.ofString "law") sc L a cd (cellsFrom (L + 1) sc.names []) []) (execs bo (envX (Str.ofString "law") sc L a cd (cellsFrom (L + 1) sc.names []))) Q E s := by
  subst hsc hbo
  exact law_tail B X T Sr hbig F N mT dT mB dB mA dA W9 I of5 hk0 hk1 hmx hmr hx hx6 mP ret
theorem way_item {prog : Program} {w : World} {A : Around} {E : Value → Shared → Prop} {s : Shared} {h₀ : Heap} {L : Addr} {news : Led} {value slice : PySem.Expr} {Q : Value → Shared → Prop} {l : Addr} {t1 t2 : Tok} {n u : Nat} {r : Int} (N : News h₀ L s.heap news) (hm : (l, tupOf [.str (Str.ofString "behind") t1, .str (Str.ofString "ahead") t2] n) ∈ news) (h0 : 0 ≤ r) (h1 : r < 2)
    (h : ∀ b t, Q (.str (wayStr b) t) s) (hs : ∀ i : Int, subscripted slice false (.ref l) (.int i u) = operate [.ref l, .int i u] (getItem (.ref l) (.int i u)) := by intro _; with_unfolding_all rfl) :
    wpAny (model prog w) A (subscriptTail value slice (.ref l) (.int r u)) Q E s := by
  obtain rfl | rfl : r = 0 ∨ r = 1 := by omega
  · exact itemT N hm (by decide) (by decide) rfl (h true _) (hs 0)
  · exact itemT N hm (by decide) (by decide) rfl (h false _) (hs 1)
theorem sign_item {prog : Program} {w : World} {A : Around} {E : Value → Shared → Prop} {s : Shared} {value slice : PySem.Expr} {Q : Value → Shared → Prop} {t u : Nat} {r : Int} (h0 : 0 ≤ r) (h1 : r < 4)
    (h : ∀ c t tk, Abn c → Q (.str ⟨#[c]⟩ t) { s with toks := tk }) (hs : ∀ i : Int, subscripted slice false (.str (Str.ofString "ab\na") t) (.int i u) = operate [.str (Str.ofString "ab\na") t, .int i u] (getItem (.str (Str.ofString "ab\na") t) (.int i u)) := by intro _; with_unfolding_all rfl) :
    wpAny (model prog w) A (subscriptTail value slice (.str (Str.ofString "ab\na") t) (.int r u)) Q E s := by
  obtain rfl | rfl | rfl | rfl : r = 0 ∨ r = 1 ∨ r = 2 ∨ r = 3 := by omega
  · exact itemS (c := 97) (by decide) (by decide) (by decide +kernel) (h 97 _ _ (.inl rfl)) (hs 0)
  · exact itemS (c := 98) (by decide) (by decide) (by decide +kernel) (h 98 _ _ (.inr (.inl rfl))) (hs 1)
  · exact itemS (c := 10) (by decide) (by decide) (by decide +kernel) (h 10 _ _ (.inr (.inr rfl))) (hs 2)
  · exact itemS (c := 97) (by decide) (by decide) (by decide +kernel) (h 97 _ _ (.inl rfl)) (hs 3)
theorem law_try.tw14154891534875865088 : True := trivial
theorem law_try.tw8073630039730464864 : True := trivial
theorem law_try.tw17575203134936361056 : True := trivial
theorem law_try.tw11915173138592319584 : True := trivial
theorem law_try.tw7837500166748457088 : True := trivial
theorem law_try.tw17538577406118032544 : True := trivial
theorem law_try.tw1724930804293499040 : True := trivial
theorem law_try.tw18383063113299909824 : True := trivial
theorem law_try.tw1398418177188235488 : True := trivial
theorem law_try.tw7190853599058818304 : True := trivial
theorem law_try.tw6656233076579570976 : True := trivial
theorem law_try.tw1950749935570817344 : True := trivial
theorem law_try.tw11930545720339190112 : True := trivial
theorem law_try.tw7534485690212714880 : True := trivial
theorem law_try.tw13692544236447471008 : True := trivial
theorem law_try.tw11660828431828940192 : True := trivial
theorem law_try.tw8809158690841359808 : True := trivial
theorem law_try.tw15426016434815452640 : True := trivial
theorem law_try.tw1419250166206798336 : True := trivial
theorem law_try.tw282875611090272800 : True := trivial
theorem law_try.tw14754648496575688256 : True := trivial
theorem law_try.tw9570451455552297664 : True := trivial
theorem law_try.tw11665769234415365824 : True := trivial
theorem law_try.tw3565685922538740448 : True := trivial
theorem law_try.tw16276844167857056512 : True := trivial
theorem law_try.tw13869522387368805184 : True := trivial
theorem law_try.tw3006169987629127520 : True := trivial
theorem law_try.tw15236746473689400192 : True := trivial
theorem law_try.tw9016396056095153024 : True := trivial
theorem law_try.tw17122669168277221248 : True := trivial
theorem law_try.tw16898765979372420992 : True := trivial
theorem law_try.tw7322938094201341888 : True := trivial
theorem law_try.tw4683467398231216096 : True := trivial
theorem law_try.tw9155977908677192769 : True := trivial
theorem law_try.tw6767692220676046945 : True := trivial
theorem law_try.tw9051418249870370913 : True := trivial
theorem law_try.tw11719752402556611681 : True := trivial
theorem law_try.tw8049614023473369217 : True := trivial
theorem law_try.tw17840802744502067329 : True := trivial
theorem law_try.tw13105922399483401377 : True := trivial
theorem law_try.tw14764551938352093345 : True := trivial
theorem law_try.tw13366801051313020065 : True := trivial
theorem law_try.tw7554025736875396289 : True := trivial
theorem law_try.tw13237623692692806849 : True := trivial
theorem law_try.tw16438622111376673057 : True := trivial
theorem law_try.tw8849315756826048801 : True := trivial
theorem law_try.tw532255945042443553 : True := trivial
theorem law_try.tw12643001220501259617 : True := trivial
theorem law_try.tw2719585150005121409 : True := trivial
theorem law_try.tw2614529247014900097 : True := trivial
theorem law_try.tw9336748091144684961 : True := trivial
theorem law_try.tw3662408233013064161 : True := trivial
theorem law_try.tw7190650825091502561 : True := trivial
theorem law_try.tw17753233664195160545 : True := trivial
theorem law_try.tw15948402739285295617 : True := trivial
theorem law_try.tw4037782866941085185 : True := trivial
theorem law_try.tw9651719801276549633 : True := trivial
theorem law_try.tw2585074656811130401 : True := trivial
theorem law_try.tw12667224462997544481 : True := trivial
theorem law_try.tw7908552022806685217 : True := trivial
theorem law_try.tw16706108535698313793 : True := trivial
theorem law_try.tw9125909954829177505 : True := trivial
theorem law_try.tw7302003072464996033 : True := trivial
theorem law_try.tw2992951233120788161 : True := trivial
theorem law_try.tw9120305013877993249 : True := trivial
theorem law_try.tw13474274649789577025 : True := trivial
theorem law_try.tw9703711094877249345 : True := trivial
theorem law_try.tw5194988097619322689 : True := trivial
theorem law_try.tw17230163419254597473 : True := trivial
theorem law_try.tw11068356337253933921 : True := trivial
theorem law_try.tw705058634740944801 : True := trivial
theorem law_try.tw10533424933985478690 : True := trivial
theorem law_try.tw9637521569183304802 : True := trivial
theorem law_try.tw4357188906689833058 : True := trivial
theorem law_try.tw14416175160056035426 : True := trivial
theorem law_try.tw10151645203201465506 : True := trivial
theorem law_try.tw2200474844847964386 : True := trivial
theorem law_try.tw11149610964178710754 : True := trivial
theorem law_try.tw6932337172151627042 : True := trivial
theorem law_try.tw10044577879971026274 : True := trivial
theorem law_try.tw17641878790183476578 : True := trivial
theorem law_try.tw15680552576709425538 : True := trivial
theorem law_try.tw11568507773179024802 : True := trivial
theorem law_try.tw7014813678171832770 : True := trivial
theorem law_try.tw11243316400508436962 : True := trivial
theorem law_try.tw7839733836606840290 : True := trivial
theorem law_try.tw13004294495460959714 : True := trivial
theorem law_try.tw6621840338201566690 : True := trivial
theorem law_try.tw6456258696467985922 : True := trivial
theorem law_try.tw14967407923348101634 : True := trivial
theorem law_try.tw2564581061182533154 : True := trivial
theorem law_try.tw2031508914933725762 : True := trivial
theorem law_try.tw463490938853083746 : True := trivial
theorem law_try.tw12880122591378660962 : True := trivial
theorem law_try.tw17336344373757772418 : True := trivial
theorem law_try.tw4972419526374156930 : True := trivial
theorem law_try.tw2651759835055928994 : True := trivial
theorem law_try.tw9899597324237491874 : True := trivial
theorem law_try.tw2311651935622486690 : True := trivial
theorem law_try.tw1638418495835680482 : True := trivial
theorem law_try.tw18164713705152277218 : True := trivial
theorem law_try.tw8469795209864020738 : True := trivial
theorem law_try.tw10623212498358505218 : True := trivial
theorem law_try.tw11402222084235493186 : True := trivial
theorem law_try.tw4840278438773279714 : True := trivial
theorem law_try.tw17198343199258411043 : True := trivial
theorem law_try.tw15175280291952472099 : True := trivial
theorem law_try.tw16250341953516557347 : True := trivial
theorem law_try.tw18252010592232910979 : True := trivial
theorem law_try.tw2819498792564250787 : True := trivial
theorem law_try.tw7328623621584298179 : True := trivial
theorem law_try.tw3650157587393072323 : True := trivial
theorem law_try.tw8939803250891001027 : True := trivial
theorem law_try.tw15131598747203970307 : True := trivial
theorem law_try.tw4370441477535107331 : True := trivial
theorem law_try.tw9418834336880573731 : True := trivial
theorem law_try.tw5012606908525454691 : True := trivial
theorem law_try.tw8776653335690098051 : True := trivial
theorem law_try.tw3959893559922089411 : True := trivial
theorem law_try.tw7481876399195814339 : True := trivial
theorem law_try.tw12638424487042729443 : True := trivial
theorem law_try.tw17571059517840933347 : True := trivial
theorem law_try.tw15294545943080535619 : True := trivial
theorem law_try.tw7192966187451995715 : True := trivial
theorem law_try.tw4921562131319617123 : True := trivial
theorem law_try.tw246123964855612035 : True := trivial
theorem law_try.tw9445562836705746563 : True := trivial
theorem law_try.tw10569206807875628707 : True := trivial
theorem law_try.tw1873642484961475267 : True := trivial
theorem law_try.tw12206152218512588483 : True := trivial
theorem law_try.tw10053118222926055203 : True := trivial
theorem law_try.tw6004092561373389603 : True := trivial
theorem law_try.tw11183251402092342115 : True := trivial
theorem law_try.tw13218663769156759395 : True := trivial
theorem law_try.tw17023603904581256067 : True := trivial
theorem law_try.tw12823113492219311108 : True := trivial
theorem law_try.tw6407518901361242148 : True := trivial
theorem law_try.tw487709659773945924 : True := trivial
theorem law_try.tw7759365712706513028 : True := trivial
theorem law_try.tw18179381557946819748 : True := trivial
theorem law_try.tw17105847988561646820 : True := trivial
theorem law_try.tw5279228575128376548 : True := trivial
theorem law_try.tw5772557765677079780 : True := trivial
theorem law_try.tw7576223789827999012 : True := trivial
theorem law_try.tw8189600537937184132 : True := trivial
theorem law_try.tw16893036870315520420 : True := trivial
theorem law_try.tw4683855844074960292 : True := trivial
theorem law_try.tw1410396977563402692 : True := trivial
theorem law_try.tw3919835247800355268 : True := trivial
theorem law_try.tw9932784260742749636 : True := trivial
theorem law_try.tw4259134159677667780 : True := trivial
theorem law_try.tw6209801744876180996 : True := trivial
theorem law_try.tw3543185443973030404 : True := trivial
theorem law_try.tw16551861615780857380 : True := trivial
theorem law_try.tw283372802903590436 : True := trivial
theorem law_try.tw17449915161306560036 : True := trivial
theorem law_try.tw5265102344954109540 : True := trivial
theorem law_try.tw16345433958485499556 : True := trivial
theorem law_try.tw10239861537831684772 : True := trivial
theorem law_try.tw14797476988506309316 : True := trivial
theorem law_try.tw1466739809966394052 : True := trivial
theorem law_try.tw7694531332130269892 : True := trivial
theorem law_try.tw8611732148512786148 : True := trivial
theorem law_try.tw9812807661988859620 : True := trivial
theorem law_try.tw6572121472464802596 : True := trivial
theorem law_try.tw11980261218433479524 : True := trivial
theorem law_try.tw12885175743367896932 : True := trivial
theorem law_try.tw12311302862269875076 : True := trivial
theorem law_try.tw12588892862925103044 : True := trivial
theorem law_try.tw4334421051891845125 : True := trivial
theorem law_try.tw6324959036819773445 : True := trivial
theorem law_try.tw17896093064487255077 : True := trivial
theorem law_try.tw15910848169630627973 : True := trivial
theorem law_try.tw17951667373414654181 : True := trivial
theorem law_try.tw15783633973515360517 : True := trivial
theorem law_try.tw8928119071175902469 : True := trivial
theorem law_try.tw14337681210331808037 : True := trivial
theorem law_try.tw6411836900930308389 : True := trivial
theorem law_try.tw11842609012645001509 : True := trivial
theorem law_try.tw2700055198782196069 : True := trivial
theorem law_try.tw6871373812196582757 : True := trivial
theorem law_try.tw7901391427603415429 : True := trivial
theorem law_try.tw2350211157852106117 : True := trivial
theorem law_try.tw12276889699357106597 : True := trivial
theorem law_try.tw12047413808647223717 : True := trivial
theorem law_try.tw6891809410630613413 : True := trivial
theorem law_try.tw6831262544473766373 : True := trivial
theorem law_try.tw16016253440646630949 : True := trivial
theorem law_try.tw16540608989368531557 : True := trivial
theorem law_try.tw8617186643022041701 : True := trivial
theorem law_try.tw9102095508590356133 : True := trivial
theorem law_try.tw9012588651068387013 : True := trivial
theorem law_try.tw12059943775831366469 : True := trivial
theorem law_try.tw12896319686462110597 : True := trivial
theorem law_try.tw18002335258793641861 : True := trivial
theorem law_try.tw12182087913508548517 : True := trivial
theorem law_try.tw15687881718194798501 : True := trivial
theorem law_try.tw16755321893209307109 : True := trivial
theorem law_try.tw3245006095374614534 : True := trivial
theorem law_try.tw4969880734879443974 : True := trivial
theorem law_try.tw6527580073373716518 : True := trivial
theorem law_try.tw6158171389954434086 : True := trivial
theorem law_try.tw16629177954148948038 : True := trivial
theorem law_try.tw8213496605096339526 : True := trivial
theorem law_try.tw8853658715285860454 : True := trivial
theorem law_try.tw6174465977590297702 : True := trivial
theorem law_try.tw17561671675098419334 : True := trivial
theorem law_try.tw15840546968246381702 : True := trivial
theorem law_try.tw836003418686658726 : True := trivial
theorem law_try.tw15438324723631936678 : True := trivial
theorem law_try.tw3892197274839451846 : True := trivial
theorem law_try.tw7037113880429288646 : True := trivial
theorem law_try.tw11547574758424888550 : True := trivial
theorem law_try.tw7594708163116315942 : True := trivial
theorem law_try.tw16075972375334455622 : True := trivial
theorem law_try.tw50456068745108838 : True := trivial
theorem law_try.tw15126258382774648230 : True := trivial
theorem law_try.tw12863942220423549382 : True := trivial
theorem law_try.tw12086299975799632358 : True := trivial
theorem law_try.tw15237123057415335430 : True := trivial
theorem law_try.tw7227109742573494822 : True := trivial
theorem law_try.tw15078686112934800966 : True := trivial
theorem law_try.tw1262548304688622214 : True := trivial
theorem law_try.tw13661502419766145670 : True := trivial
theorem law_try.tw9524744934533108390 : True := trivial
theorem law_try.tw7355504324331509414 : True := trivial
theorem law_try.tw9944796132657920678 : True := trivial
theorem law_try.tw6867281604332438214 : True := trivial
theorem law_try.tw13373493789634627270 : True := trivial
theorem law_try.tw14307891758335895270 : True := trivial
theorem law_try.tw17583033898031991526 : True := trivial
theorem law_try.tw14700596566122803974 : True := trivial
theorem law_try.tw11356819611808223014 : True := trivial
theorem law_try.tw17094527189523876646 : True := trivial
theorem law_try.tw103603830019952454 : True := trivial
theorem law_try.tw12257002997718467398 : True := trivial
theorem law_try.tw12388799876653996902 : True := trivial
theorem law_try.tw11218469200955535270 : True := trivial
theorem law_try.tw10711043000283721638 : True := trivial
theorem law_try.tw16118410442752093126 : True := trivial
theorem law_try.tw1116975779046334438 : True := trivial
theorem law_try.tw8635603025455149063 : True := trivial
theorem law_try.tw9481486751896380455 : True := trivial
theorem law_try.tw15071002757758368871 : True := trivial
theorem law_try.tw237296028124669031 : True := trivial
theorem law_try.tw13259854825996008583 : True := trivial
theorem law_try.tw15346428206812766343 : True := trivial
theorem law_try.tw9328426689293969543 : True := trivial
theorem law_try.tw10245421094935058631 : True := trivial
theorem law_try.tw4248394846855892199 : True := trivial
theorem law_try.tw236378686099345639 : True := trivial
theorem law_try.tw9638900476223509735 : True := trivial
theorem law_try.tw15401202677914098919 : True := trivial
theorem law_try.tw2643591465385988359 : True := trivial
theorem law_try.tw3695748415854443815 : True := trivial
theorem law_try.tw13420903297603408199 : True := trivial
theorem law_try.tw12081835656356610407 : True := trivial
theorem law_try.tw2779971565259935079 : True := trivial
theorem law_try.tw13221737644324399527 : True := trivial
theorem law_try.tw4347712283086833063 : True := trivial
theorem law_try.tw11839327127434795527 : True := trivial
theorem law_try.tw10800975677729549831 : True := trivial
theorem law_try.tw705244476912663047 : True := trivial
theorem law_try.tw10750816581634621031 : True := trivial
theorem law_try.tw3232845741683203751 : True := trivial
theorem law_try.tw6363931984667247303 : True := trivial
theorem law_try.tw10888857206637355751 : True := trivial
theorem law_try.tw10160793995879365447 : True := trivial
theorem law_try.tw13296992900556055367 : True := trivial
theorem law_try.tw13349184803819480935 : True := trivial
theorem law_try.tw4300939127727462343 : True := trivial
theorem law_try.tw7366476781995076583 : True := trivial
theorem law_try.tw15847743030640550887 : True := trivial
theorem law_try.tw10236718597162543079 : True := trivial
theorem law_try.tw9541541368608817160 : True := trivial
theorem law_try.tw7848848017358330952 : True := trivial
theorem law_try.tw3223615234239834184 : True := trivial
theorem law_try.tw5720324927105834120 : True := trivial
theorem law_try.tw8218786578462580872 : True := trivial
theorem law_try.tw3279006100163883176 : True := trivial
theorem law_try.tw17576851289434302696 : True := trivial
theorem law_try.tw1856463872569655560 : True := trivial
theorem law_try.tw8043475608159232296 : True := trivial
theorem law_try.tw18340243779792196936 : True := trivial
theorem law_try.tw6416725126745473384 : True := trivial
theorem law_try.tw13510750529528582504 : True := trivial
theorem law_try.tw12631350276879570280 : True := trivial
theorem law_try.tw9900811181698986376 : True := trivial
theorem law_try.tw9752816054982681000 : True := trivial
theorem law_try.tw16015853161321473448 : True := trivial
theorem law_try.tw13517079006056536488 : True := trivial
theorem law_try.tw2705073364965977512 : True := trivial
theorem law_try.tw4491081006287268328 : True := trivial
theorem law_try.tw9858119064593222152 : True := trivial
theorem law_try.tw4619751833975776808 : True := trivial
theorem law_try.tw11574535877900088936 : True := trivial
theorem law_try.tw18417328169575424648 : True := trivial
theorem law_try.tw9224503822654453384 : True := trivial
theorem law_try.tw13195369458289856136 : True := trivial
theorem law_try.tw5906461540402698952 : True := trivial
theorem law_try.tw5536042124208183016 : True := trivial
theorem law_try.tw10668605881418799880 : True := trivial
theorem law_try.tw1356568786831523656 : True := trivial
theorem law_try.tw4843139831006218056 : True := trivial
theorem law_try.tw15738112230753230664 : True := trivial
theorem law_try.tw13205294273798807432 : True := trivial
theorem law_try.tw14498997056817729416 : True := trivial
theorem law_try.tw9457017931279366120 : True := trivial
theorem law_try.tw6802809557592755241 : True := trivial
theorem law_try.tw9744492753858897961 : True := trivial
theorem law_try.tw16322454607535481961 : True := trivial
theorem law_try.tw6906742978498733193 : True := trivial
theorem law_try.tw15176445185284881545 : True := trivial
theorem law_try.tw6611128710078228649 : True := trivial
theorem law_try.tw6164826718704638121 : True := trivial
theorem law_try.tw9254416571392856297 : True := trivial
theorem law_try.tw892578865420997897 : True := trivial
theorem law_try.tw15416044960973236489 : True := trivial
theorem law_try.tw10351461966206462249 : True := trivial
theorem law_try.tw17232302776278761801 : True := trivial
theorem law_try.tw1834530315953434953 : True := trivial
theorem law_try.tw7421578031892229481 : True := trivial
theorem law_try.tw387995975338711433 : True := trivial
theorem law_try.tw17884578525637764521 : True := trivial
theorem law_try.tw17944350489495343529 : True := trivial
theorem law_try.tw2260605846494373321 : True := trivial
theorem law_try.tw15438394087643875849 : True := trivial
theorem law_try.tw6254576562762023465 : True := trivial
theorem law_try.tw7643677421018422825 : True := trivial
theorem law_try.tw15123908866067703337 : True := trivial
theorem law_try.tw13454635032585644585 : True := trivial
theorem law_try.tw1561983990900486697 : True := trivial
theorem law_try.tw3216456792781270665 : True := trivial
theorem law_try.tw15610226645685721769 : True := trivial
theorem law_try.tw17872349676426706665 : True := trivial
theorem law_try.tw11172373477638715145 : True := trivial
theorem law_try.tw2337172459508448041 : True := trivial
theorem law_try.tw11425679139735925577 : True := trivial
theorem law_try.tw6038817841247441833 : True := trivial
theorem law_try.tw16282207750644966345 : True := trivial
theorem law_try.tw11055125637668168649 : True := trivial
theorem law_try.tw12800667917102116809 : True := trivial
theorem law_try.tw17811443700395176937 : True := trivial
theorem law_try.tw2139178298456025258 : True := trivial
theorem law_try.tw5319483437081139402 : True := trivial
theorem law_try.tw3520318719026445546 : True := trivial
theorem law_try.tw3731340842012556554 : True := trivial
theorem law_try.tw3927610232915759402 : True := trivial
theorem law_try.tw674807356917734730 : True := trivial
theorem law_try.tw6029702583869335914 : True := trivial
theorem law_try.tw13578092769001765258 : True := trivial
theorem law_try.tw10523706274523013546 : True := trivial
theorem law_try.tw6658026269728293354 : True := trivial
theorem law_try.tw16414986036982823434 : True := trivial
theorem law_try.tw5584271408318453322 : True := trivial
theorem law_try.tw13794369966553078378 : True := trivial
theorem law_try.tw2191789102276570730 : True := trivial
theorem law_try.tw6306474907765739178 : True := trivial
theorem law_try.tw16657342780363167402 : True := trivial
theorem law_try.tw7827294979249344202 : True := trivial
theorem law_try.tw17328786099508295370 : True := trivial
theorem law_try.tw15569946252848815818 : True := trivial
theorem law_try.tw4254192668821432042 : True := trivial
theorem law_try.tw6347836458746299146 : True := trivial
theorem law_try.tw1701743153919117066 : True := trivial
theorem law_try.tw13702078948361924362 : True := trivial
theorem law_try.tw12832170951740456810 : True := trivial
theorem law_try.tw353029923088624490 : True := trivial
theorem law_try.tw16479934925937020810 : True := trivial
theorem law_try.tw12665599627192998794 : True := trivial
theorem law_try.tw7535051605585165226 : True := trivial
theorem law_try.tw15209737854880006090 : True := trivial
theorem law_try.tw4848869320520864714 : True := trivial
theorem law_try.tw8016970347185415146 : True := trivial
theorem law_try.tw16584359580729536523 : True := trivial
theorem law_try.tw14068391818359259211 : True := trivial
theorem law_try.tw17256588146214796395 : True := trivial
theorem law_try.tw12995705874246749323 : True := trivial
theorem law_try.tw11613676694042204299 : True := trivial
theorem law_try.tw710189893697058987 : True := trivial
theorem law_try.tw11262130218102190251 : True := trivial
theorem law_try.tw12734457953105760459 : True := trivial
theorem law_try.tw11969931015914665195 : True := trivial
theorem law_try.tw14268023474668159211 : True := trivial
theorem law_try.tw16004904211002779883 : True := trivial
theorem law_try.tw10887196779372184939 : True := trivial
theorem law_try.tw10348302109965614443 : True := trivial
theorem law_try.tw15719726917484404107 : True := trivial
theorem law_try.tw12197457723428782539 : True := trivial
theorem law_try.tw6522227788702017995 : True := trivial
theorem law_try.tw321651944139362795 : True := trivial
theorem law_try.tw7102393574951041515 : True := trivial
theorem law_try.tw6471703867608495627 : True := trivial
theorem law_try.tw528503178134609483 : True := trivial
theorem law_try.tw11592190674423753387 : True := trivial
theorem law_try.tw9053841057826435755 : True := trivial
theorem law_try.tw14475626175312763627 : True := trivial
theorem law_try.tw14359888268945437419 : True := trivial
theorem law_try.tw7834583458937546571 : True := trivial
theorem law_try.tw7195842981700429643 : True := trivial
theorem law_try.tw6039652426730264427 : True := trivial
theorem law_try.tw1778275726510449547 : True := trivial
theorem law_try.tw1005869517585969035 : True := trivial
theorem law_try.tw17848468636808116139 : True := trivial
theorem law_try.tw7048806287611547595 : True := trivial
theorem law_try.tw13454115426379467755 : True := trivial
theorem law_try.tw14123745345885634539 : True := trivial
theorem law_try.tw1850872103724306476 : True := trivial
theorem law_try.tw12257644981272134732 : True := trivial
theorem law_try.tw16210643033465617484 : True := trivial
theorem law_try.tw17152879238709358732 : True := trivial
theorem law_try.tw13727509236584706188 : True := trivial
theorem law_try.tw5163968349546996940 : True := trivial
theorem law_try.tw7299733299851193548 : True := trivial
theorem law_try.tw16967277482680824076 : True := trivial
theorem law_try.tw4014145537265473836 : True := trivial
theorem law_try.tw16490235423342285196 : True := trivial
theorem law_try.tw12401033752317159820 : True := trivial
theorem law_try.tw16246942261301925324 : True := trivial
theorem law_try.tw10542639638217736684 : True := trivial
theorem law_try.tw8820607207161670188 : True := trivial
theorem law_try.tw8981968640936835692 : True := trivial
theorem law_try.tw10133998131804180076 : True := trivial
theorem law_try.tw6074946428714015372 : True := trivial
theorem law_try.tw7747097220470513324 : True := trivial
theorem law_try.tw11307684446739740332 : True := trivial
theorem law_try.tw10448870640769956556 : True := trivial
theorem law_try.tw14107234981496835852 : True := trivial
theorem law_try.tw7216122268897661708 : True := trivial
theorem law_try.tw12488284982535477004 : True := trivial
theorem law_try.tw12858371143231015724 : True := trivial
theorem law_try.tw9044099771224280908 : True := trivial
theorem law_try.tw8294972302594450316 : True := trivial
theorem law_try.tw8456915739038182284 : True := trivial
theorem law_try.tw14616114422520430540 : True := trivial
theorem law_try.tw9162775782167727084 : True := trivial
theorem law_try.tw6964286392502246477 : True := trivial
theorem law_try.tw13948035798701153389 : True := trivial
theorem law_try.tw5010666806135340205 : True := trivial
theorem law_try.tw11083902011698201773 : True := trivial
theorem law_try.tw7705275321065779405 : True := trivial
theorem law_try.tw657904532973733069 : True := trivial
theorem law_try.tw1439158849096743117 : True := trivial
theorem law_try.tw11037198737506441453 : True := trivial
theorem law_try.tw1800844955360873741 : True := trivial
theorem law_try.tw13860987754424369421 : True := trivial
theorem law_try.tw71488279707906349 : True := trivial
theorem law_try.tw1150506816110245197 : True := trivial
theorem law_try.tw8982839844736848269 : True := trivial
theorem law_try.tw10960238939922861485 : True := trivial
theorem law_try.tw1163564209762244013 : True := trivial
theorem law_try.tw13985739311636961709 : True := trivial
theorem law_try.tw5569860416252504493 : True := trivial
theorem law_try.tw5706241311581649357 : True := trivial
theorem law_try.tw16441568278214763981 : True := trivial
theorem law_try.tw5833259187628833261 : True := trivial
theorem law_try.tw11052453753431267917 : True := trivial
theorem law_try.tw17676459929551952461 : True := trivial
theorem law_try.tw13441169826759598669 : True := trivial
theorem law_try.tw2430420786255583885 : True := trivial
theorem law_try.tw2249918085114452685 : True := trivial
theorem law_try.tw9652271939283695341 : True := trivial
theorem law_try.tw2418092209834792717 : True := trivial
theorem law_try.tw4428944666939779917 : True := trivial
theorem law_try.tw5421551196224564141 : True := trivial
theorem law_try.tw8113906688643308493 : True := trivial
theorem law_try.tw12874579070375546861 : True := trivial
theorem law_try.tw1311313007900775405 : True := trivial
theorem law_try.tw528356217651026925 : True := trivial
theorem law_try.tw15642794052820820973 : True := trivial
theorem law_try.tw3831838463817147406 : True := trivial
theorem law_try.tw1046644713385474094 : True := trivial
theorem law_try.tw4200180425514481710 : True := trivial
theorem law_try.tw13659932431860206670 : True := trivial
theorem law_try.tw10372020619864384622 : True := trivial
theorem law_try.tw4859100948984574062 : True := trivial
theorem law_try.tw7113061773280523406 : True := trivial
theorem law_try.tw12844117439302874286 : True := trivial
theorem law_try.tw14133693154406250798 : True := trivial
theorem law_try.tw10213298561467403630 : True := trivial
theorem law_try.tw4717353324927285678 : True := trivial
theorem law_try.tw9562530243355553230 : True := trivial
theorem law_try.tw2444857686281633230 : True := trivial
theorem law_try.tw5231288067022803406 : True := trivial
theorem law_try.tw6513932584888019598 : True := trivial
theorem law_try.tw14064687939275900622 : True := trivial
theorem law_try.tw7723604741259902702 : True := trivial
theorem law_try.tw10604359279800598382 : True := trivial
theorem law_try.tw2983916338190733166 : True := trivial
theorem law_try.tw1253519397040123758 : True := trivial
theorem law_try.tw2734435955173817198 : True := trivial
theorem law_try.tw11675777751697812366 : True := trivial
theorem law_try.tw14786035836386320302 : True := trivial
theorem law_try.tw1659687972470381486 : True := trivial
theorem law_try.tw4202853059517341614 : True := trivial
theorem law_try.tw12936479313621102542 : True := trivial
theorem law_try.tw2592280007231697870 : True := trivial
theorem law_try.tw12688234627357661166 : True := trivial
theorem law_try.tw8703392096906988591 : True := trivial
theorem law_try.tw15749148088744886351 : True := trivial
theorem law_try.tw1410063847003452527 : True := trivial
theorem law_try.tw14492152235561710735 : True := trivial
theorem law_try.tw5992873837011190991 : True := trivial
theorem law_try.tw10650109483373015279 : True := trivial
theorem law_try.tw17856133933466865903 : True := trivial
theorem law_try.tw6905192441487378703 : True := trivial
theorem law_try.tw3726974551442643279 : True := trivial
theorem law_try.tw9262228560341817711 : True := trivial
theorem law_try.tw11168162616323549551 : True := trivial
theorem law_try.tw18408444847944994223 : True := trivial
theorem law_try.tw10832055958874053039 : True := trivial
theorem law_try.tw14272761792070570447 : True := trivial
theorem law_try.tw14188404370297760239 : True := trivial
theorem law_try.tw14523999811313647119 : True := trivial
theorem law_try.tw8944513125224006159 : True := trivial
theorem law_try.tw8709907835762331151 : True := trivial
theorem law_try.tw8423181579745362479 : True := trivial
theorem law_try.tw14343785656596628015 : True := trivial
theorem law_try.tw2240169119700563535 : True := trivial
theorem law_try.tw5481382792630801103 : True := trivial
theorem law_try.tw1948622227415964399 : True := trivial
theorem law_try.tw17332145147936279343 : True := trivial
theorem law_try.tw5627371463308313423 : True := trivial
theorem law_try.tw9518088462803737455 : True := trivial
theorem law_try.tw14996849202583381871 : True := trivial
theorem law_try.tw11516237231115690895 : True := trivial
theorem law_try.tw7588105779252467695 : True := trivial
theorem law_try.tw12470969934792467439 : True := trivial
theorem law_try.tw4209909978091116560 : True := trivial
theorem law_try.tw552956165049538576 : True := trivial
theorem law_try.tw11397212091684215824 : True := trivial
theorem law_try.tw10615783343460822064 : True := trivial
theorem law_try.tw1698030350605921392 : True := trivial
theorem law_try.tw6915819348753461360 : True := trivial
theorem law_try.tw2642510343107370160 : True := trivial
theorem law_try.tw9271539795670491312 : True := trivial
theorem law_try.tw17240354236854499504 : True := trivial
theorem law_try.tw6374158861958098128 : True := trivial
theorem law_try.tw10504665268272547056 : True := trivial
theorem law_try.tw372059252783534320 : True := trivial
theorem law_try.tw2680839516123173136 : True := trivial
theorem law_try.tw10611208062398430480 : True := trivial
theorem law_try.tw17350317237844388144 : True := trivial
theorem law_try.tw6620757441426939248 : True := trivial
theorem law_try.tw16630467434971995568 : True := trivial
theorem law_try.tw2230229961890840016 : True := trivial
theorem law_try.tw3542688640570182128 : True := trivial
theorem law_try.tw2461303365729056272 : True := trivial
theorem law_try.tw5841561540070076048 : True := trivial
theorem law_try.tw4712459013762817680 : True := trivial
theorem law_try.tw10607403619458396848 : True := trivial
theorem law_try.tw9436330122133622512 : True := trivial
theorem law_try.tw10824957906745559888 : True := trivial
theorem law_try.tw5001630414167232336 : True := trivial
theorem law_try.tw5882399566453175152 : True := trivial
theorem law_try.tw9054302300549779344 : True := trivial
theorem law_try.tw1227264972273140688 : True := trivial
theorem law_try.tw6618756246362720240 : True := trivial
theorem law_try.tw2498434205990646801 : True := trivial
theorem law_try.tw3617315420782800113 : True := trivial
theorem law_try.tw17741590322021865777 : True := trivial
theorem law_try.tw7596778141831904561 : True := trivial
theorem law_try.tw3494348636284699953 : True := trivial
theorem law_try.tw8418085653354912081 : True := trivial
theorem law_try.tw9086594268292048209 : True := trivial
theorem law_try.tw2238953902116594065 : True := trivial
theorem law_try.tw544883133452577233 : True := trivial
theorem law_try.tw16109489274619050449 : True := trivial
theorem law_try.tw6092303685457885713 : True := trivial
theorem law_try.tw4983944370125260305 : True := trivial
theorem law_try.tw233222399204394577 : True := trivial
theorem law_try.tw3651384496995594833 : True := trivial
theorem law_try.tw4777568174959677041 : True := trivial
theorem law_try.tw17117970024427344497 : True := trivial
theorem law_try.tw2575013583268582065 : True := trivial
theorem law_try.tw10790417266072890033 : True := trivial
theorem law_try.tw1332862670245251761 : True := trivial
theorem law_try.tw15499312238437800657 : True := trivial
theorem law_try.tw9914462838240387825 : True := trivial
theorem law_try.tw18429956076258908913 : True := trivial
theorem law_try.tw14034870530057457457 : True := trivial
theorem law_try.tw16234936859087268657 : True := trivial
theorem law_try.tw4046675801177574225 : True := trivial
theorem law_try.tw2329686534580949905 : True := trivial
theorem law_try.tw9306220863116689361 : True := trivial
theorem law_try.tw18293610978824659953 : True := trivial
theorem law_try.tw359457258751740913 : True := trivial
theorem law_try.tw12417385148000322578 : True := trivial
theorem law_try.tw11460221648842619922 : True := trivial
theorem law_try.tw16492252403343986738 : True := trivial
theorem law_try.tw4031791628751617074 : True := trivial
theorem law_try.tw2532018819935852594 : True := trivial
theorem law_try.tw4910273861338554482 : True := trivial
theorem law_try.tw15195185996410192018 : True := trivial
theorem law_try.tw17765030065523114130 : True := trivial
theorem law_try.tw5972398233976464530 : True := trivial
theorem law_try.tw15388750535925299378 : True := trivial
theorem law_try.tw50671440996285650 : True := trivial
theorem law_try.tw9768433523357498642 : True := trivial
theorem law_try.tw17551071247032061234 : True := trivial
theorem law_try.tw8257156019043431730 : True := trivial
theorem law_try.tw16845444127295583666 : True := trivial
theorem law_try.tw2344977709637012946 : True := trivial
theorem law_try.tw10934512606687508146 : True := trivial
theorem law_try.tw5933005609515500242 : True := trivial
theorem law_try.tw2991097959636376274 : True := trivial
theorem law_try.tw2514322033189069586 : True := trivial
theorem law_try.tw9436677632303227666 : True := trivial
theorem law_try.tw4798853337774248786 : True := trivial
theorem law_try.tw6087890145947021202 : True := trivial
theorem law_try.tw3803819325811523474 : True := trivial
theorem law_try.tw16583361511214449586 : True := trivial
theorem law_try.tw4907836744617790386 : True := trivial
theorem law_try.tw6933849535903671218 : True := trivial
theorem law_try.tw3783298767922269138 : True := trivial
theorem law_try.tw9113719080466120723 : True := trivial
theorem law_try.tw432820421007205395 : True := trivial
theorem law_try.tw9493020119901474867 : True := trivial
theorem law_try.tw17159961090834342067 : True := trivial
theorem law_try.tw13244513673332701363 : True := trivial
theorem law_try.tw10453129588148424883 : True := trivial
theorem law_try.tw5630690137991375091 : True := trivial
theorem law_try.tw17852694822192577779 : True := trivial
theorem law_try.tw33135514168400115 : True := trivial
theorem law_try.tw17592036209070911795 : True := trivial
theorem law_try.tw3984647052024666419 : True := trivial
theorem law_try.tw4570380331603479923 : True := trivial
theorem law_try.tw2276182558629908851 : True := trivial
theorem law_try.tw6350265401222753651 : True := trivial
theorem law_try.tw8121138890873148819 : True := trivial
theorem law_try.tw10088962661824601491 : True := trivial
theorem law_try.tw10296574329699382675 : True := trivial
theorem law_try.tw4336719343196142995 : True := trivial
theorem law_try.tw2475455047294635443 : True := trivial
theorem law_try.tw4624505515888413107 : True := trivial
theorem law_try.tw11614290364446051891 : True := trivial
theorem law_try.tw4929411375428869715 : True := trivial
theorem law_try.tw727922830820945491 : True := trivial
theorem law_try.tw16314132363037738803 : True := trivial
theorem law_try.tw1324714587674551091 : True := trivial
theorem law_try.tw11105070003163480915 : True := trivial
theorem law_try.tw7614595385678779219 : True := trivial
theorem law_try.tw3544541689276884851 : True := trivial
theorem law_try.tw3903474583718029203 : True := trivial
theorem law_try.tw14851425280110949299 : True := trivial
theorem law_try.tw9261990072961419187 : True := trivial
theorem law_try.tw12813742135697902547 : True := trivial
theorem law_try.tw11329435672751537107 : True := trivial
theorem law_try.tw10547046449740088307 : True := trivial
theorem law_try.tw9258806398558851059 : True := trivial
theorem law_try.tw600371080301800435 : True := trivial
theorem law_try.tw2412060703976055924 : True := trivial
theorem law_try.tw5116589790751177876 : True := trivial
theorem law_try.tw12867073440699994260 : True := trivial
theorem law_try.tw11617136565962207412 : True := trivial
theorem law_try.tw11311899214392707284 : True := trivial
theorem law_try.tw6175825484886711508 : True := trivial
theorem law_try.tw15210482563878656276 : True := trivial
theorem law_try.tw4970873819609678132 : True := trivial
theorem law_try.tw13282530234684230964 : True := trivial
theorem law_try.tw18212815059361960276 : True := trivial
theorem law_try.tw12014832746788648276 : True := trivial
theorem law_try.tw9117433560059826612 : True := trivial
theorem law_try.tw650932709107135988 : True := trivial
theorem law_try.tw14887595008905140788 : True := trivial
theorem law_try.tw9451295364555649620 : True := trivial
theorem law_try.tw10759633803000265300 : True := trivial
theorem law_try.tw16703367217721545332 : True := trivial
theorem law_try.tw7074088308467674772 : True := trivial
theorem law_try.tw11513160098786021140 : True := trivial
theorem law_try.tw12159479179354968852 : True := trivial
theorem law_try.tw1112304994398288660 : True := trivial
theorem law_try.tw16390865121167341332 : True := trivial
theorem law_try.tw4124595927969862484 : True := trivial
theorem law_try.tw12179887392587955124 : True := trivial
theorem law_try.tw16771440293799094196 : True := trivial
theorem law_try.tw15385755208638674900 : True := trivial
theorem law_try.tw8290917825855714292 : True := trivial
theorem law_try.tw5685463880316669973 : True := trivial
theorem law_try.tw4042213780437293077 : True := trivial
theorem law_try.tw56911914355610677 : True := trivial
theorem law_try.tw6557547469548395573 : True := trivial
theorem law_try.tw14596171317610964085 : True := trivial
theorem law_try.tw6983974627324692629 : True := trivial
theorem law_try.tw8225350229334207637 : True := trivial
theorem law_try.tw4524152839475542165 : True := trivial
theorem law_try.tw793545053446444245 : True := trivial
theorem law_try.tw17702052000005941461 : True := trivial
theorem law_try.tw6240792733058207989 : True := trivial
theorem law_try.tw247607338669249813 : True := trivial
theorem law_try.tw8129800698969348373 : True := trivial
theorem law_try.tw4906835230801699157 : True := trivial
theorem law_try.tw16498903055153152341 : True := trivial
theorem law_try.tw11107232908519768469 : True := trivial
theorem law_try.tw1314032790907888021 : True := trivial
theorem law_try.tw4222364173432093109 : True := trivial
theorem law_try.tw9991877510620446133 : True := trivial
theorem law_try.tw14124927336938490325 : True := trivial
theorem law_try.tw4126451719596537301 : True := trivial
theorem law_try.tw139443476859530741 : True := trivial
theorem law_try.tw4301714875137858101 : True := trivial
theorem law_try.tw2268744221369937461 : True := trivial
theorem law_try.tw14373947989314816565 : True := trivial
theorem law_try.tw3658646286624989781 : True := trivial
theorem law_try.tw14527295712146470485 : True := trivial
theorem law_try.tw3776822321364985429 : True := trivial
theorem law_try.tw860439889724617333 : True := trivial
theorem law_try.tw3449829272634996373 : True := trivial
theorem law_try.tw5685454303254701717 : True := trivial
theorem law_try.tw15502592794043273941 : True := trivial
theorem law_try.tw8742668359606298325 : True := trivial
theorem law_try.tw11923539409904920277 : True := trivial
theorem law_try.tw8303950320315514645 : True := trivial
theorem law_try.tw7089088764652119861 : True := trivial
theorem law_try.tw18333036271075292981 : True := trivial
theorem law_try.tw1023991817841225557 : True := trivial
theorem law_try.tw15631066089580232565 : True := trivial
theorem law_try.tw9555834533146002357 : True := trivial
theorem law_try.tw10539661753138723765 : True := trivial
theorem law_try.tw1416553080450532341 : True := trivial
theorem law_try.tw10870239057542136854 : True := trivial
theorem law_try.tw7798063966404975670 : True := trivial
theorem law_try.tw7437514047558282294 : True := trivial
theorem law_try.tw899605574664536150 : True := trivial
theorem law_try.tw7495650296290334806 : True := trivial
theorem law_try.tw6864555337652403318 : True := trivial
theorem law_try.tw2858815922286049462 : True := trivial
theorem law_try.tw1059757164096625878 : True := trivial
theorem law_try.tw10953065171927332086 : True := trivial
theorem law_try.tw6445370129717943574 : True := trivial
theorem law_try.tw2075358803224663382 : True := trivial
theorem law_try.tw13716299914346578262 : True := trivial
theorem law_try.tw9273910593650320726 : True := trivial
theorem law_try.tw5803376265398183254 : True := trivial
theorem law_try.tw10367298507558246774 : True := trivial
theorem law_try.tw17153955579013225846 : True := trivial
theorem law_try.tw9491369650073272694 : True := trivial
theorem law_try.tw9512626319338122646 : True := trivial
theorem law_try.tw17025633949382818198 : True := trivial
theorem law_try.tw15884087580372972982 : True := trivial
theorem law_try.tw7985291572202414550 : True := trivial
theorem law_try.tw4207116481689189846 : True := trivial
theorem law_try.tw7610615015037941238 : True := trivial
theorem law_try.tw14774572590436081174 : True := trivial
theorem law_try.tw6795217134246553142 : True := trivial
theorem law_try.tw12149830630015496758 : True := trivial
theorem law_try.tw10098098814852999830 : True := trivial
theorem law_try.tw16448025739975766710 : True := trivial
theorem law_try.tw7266519303086910134 : True := trivial
theorem law_try.tw5197773028046816982 : True := trivial
theorem law_try.tw9937960543608340182 : True := trivial
theorem law_try.tw9006742178586825462 : True := trivial
theorem law_try.tw5786067187143992054 : True := trivial
theorem law_try.tw13612120429832826678 : True := trivial
theorem law_try.tw15991440173045884758 : True := trivial
theorem law_try.tw15705485443295531894 : True := trivial
theorem law_try.tw12797883956705037206 : True := trivial
theorem law_try.tw1342540944028927926 : True := trivial
theorem law_try.tw11313339804160167862 : True := trivial
theorem law_try.tw8906778180417784790 : True := trivial
theorem law_try.tw8949901062995988438 : True := trivial
theorem law_try.tw5972892881193971767 : True := trivial
theorem law_try.tw17542370923351477335 : True := trivial
theorem law_try.tw11288499709556767831 : True := trivial
theorem law_try.tw4051699496971229271 : True := trivial
theorem law_try.tw4733595679974594711 : True := trivial
theorem law_try.tw13391822926157917335 : True := trivial
theorem law_try.tw6088322956299475127 : True := trivial
theorem law_try.tw13004911785498486967 : True := trivial
theorem law_try.tw10144901568451078327 : True := trivial
theorem law_try.tw17854243508821500119 : True := trivial
theorem law_try.tw9154164416880285943 : True := trivial
theorem law_try.tw17940178597841729783 : True := trivial
theorem law_try.tw1599721160009385207 : True := trivial
theorem law_try.tw5772637552610446647 : True := trivial
theorem law_try.tw16558742795371197783 : True := trivial
theorem law_try.tw17474290280557365687 : True := trivial
theorem law_try.tw10449589875674740151 : True := trivial
theorem law_try.tw5394900669153458647 : True := trivial
theorem law_try.tw670166908769390039 : True := trivial
theorem law_try.tw12261927723524530711 : True := trivial
theorem law_try.tw2424363785620636183 : True := trivial
theorem law_try.tw715279191307513367 : True := trivial
theorem law_try.tw16193893354097226327 : True := trivial
theorem law_try.tw2120293888542280279 : True := trivial
theorem law_try.tw5548115604683112055 : True := trivial
theorem law_try.tw4891585641749867127 : True := trivial
theorem law_try.tw13380218491582575223 : True := trivial
theorem law_try.tw15330902388140986039 : True := trivial
theorem law_try.tw6884573002967734967 : True := trivial
theorem law_try.tw1546480963217355447 : True := trivial
theorem law_try.tw1938799547761343191 : True := trivial
theorem law_try.tw481356421941720791 : True := trivial
theorem law_try.tw14811757913011332855 : True := trivial
theorem law_try.tw2498544946713922327 : True := trivial
theorem law_try.tw8157303862744167191 : True := trivial
theorem law_try.tw16149495282208651031 : True := trivial
theorem law_try.tw1160854120828770167 : True := trivial
theorem law_try.tw17119578258433139575 : True := trivial
theorem law_try.tw10721629029989105623 : True := trivial
theorem law_try.tw3808005935867011160 : True := trivial
theorem law_try.tw15165274523163112536 : True := trivial
theorem law_try.tw13131060214731175000 : True := trivial
theorem law_try.tw12114902156108766328 : True := trivial
theorem law_try.tw7473249526217623704 : True := trivial
theorem law_try.tw11248142170111012056 : True := trivial
theorem law_try.tw13596764018723632376 : True := trivial
theorem law_try.tw7396100582937685240 : True := trivial
theorem law_try.tw12654101693662032120 : True := trivial
theorem law_try.tw17436256167851880792 : True := trivial
theorem law_try.tw2945855755116113272 : True := trivial
theorem law_try.tw3914239630025888152 : True := trivial
theorem law_try.tw9392178743196825016 : True := trivial
theorem law_try.tw1540220301896665528 : True := trivial
theorem law_try.tw10482313579976101336 : True := trivial
theorem law_try.tw13403004477206477304 : True := trivial
theorem law_try.tw1907434226164787704 : True := trivial
theorem law_try.tw15323090087746959896 : True := trivial
theorem law_try.tw4614002919278976600 : True := trivial
theorem law_try.tw11021295245977852536 : True := trivial
theorem law_try.tw10080707376860895864 : True := trivial
theorem law_try.tw7564380652567175800 : True := trivial
theorem law_try.tw6091830957390213752 : True := trivial
theorem law_try.tw10580499462661086872 : True := trivial
theorem law_try.tw7603341695817480856 : True := trivial
theorem law_try.tw4112094902007757496 : True := trivial
theorem law_try.tw11874225073170280216 : True := trivial
theorem law_try.tw18222951100534457144 : True := trivial
theorem law_try.tw8539686096240135000 : True := trivial
theorem law_try.tw6356548956270628792 : True := trivial
theorem law_try.tw1717684936485165016 : True := trivial
theorem law_try.tw15349609921057121240 : True := trivial
theorem law_try.tw2138777441946221560 : True := trivial
theorem law_try.tw17383916192330066969 : True := trivial
theorem law_try.tw12403905002314849305 : True := trivial
theorem law_try.tw11190615628083895353 : True := trivial
theorem law_try.tw2222022180976264377 : True := trivial
theorem law_try.tw10311023137703332057 : True := trivial
theorem law_try.tw11692312844141826265 : True := trivial
theorem law_try.tw14203849945526716633 : True := trivial
theorem law_try.tw4560782343710798041 : True := trivial
theorem law_try.tw4226566106484653305 : True := trivial
theorem law_try.tw17644353819647661305 : True := trivial
theorem law_try.tw17077567854464062745 : True := trivial
theorem law_try.tw748200194504485145 : True := trivial
theorem law_try.tw15775802610172656921 : True := trivial
theorem law_try.tw12612565482483724633 : True := trivial
theorem law_try.tw14248569594744841625 : True := trivial
theorem law_try.tw2619429271964977593 : True := trivial
theorem law_try.tw15221256155073900985 : True := trivial
theorem law_try.tw3281623530758020569 : True := trivial
theorem law_try.tw17443891743870457337 : True := trivial
theorem law_try.tw4500541739537538553 : True := trivial
theorem law_try.tw4591391746936047129 : True := trivial
theorem law_try.tw5890420914829339161 : True := trivial
theorem law_try.tw89712776627093017 : True := trivial
theorem law_try.tw2423683191578230297 : True := trivial
theorem law_try.tw7455834166801220153 : True := trivial
theorem law_try.tw10277306925415492153 : True := trivial
theorem law_try.tw1411667347882853977 : True := trivial
theorem law_try.tw4430622010057322073 : True := trivial
theorem law_try.tw17337888486557269625 : True := trivial
theorem law_try.tw12063508242524430969 : True := trivial
theorem law_try.tw12938989600601564793 : True := trivial
theorem law_try.tw8935472368941265561 : True := trivial
theorem law_try.tw15765834542416779929 : True := trivial
theorem law_try.tw17159526435607228089 : True := trivial
theorem law_try.tw16947056903232670393 : True := trivial
theorem law_try.tw12401118321350662841 : True := trivial
theorem law_try.tw17236816163192239833 : True := trivial
theorem law_try.tw2620907683508046585 : True := trivial
theorem law_try.tw13297038866433500921 : True := trivial
theorem law_try.tw14033996050670240537 : True := trivial
theorem law_try.tw14519154675544166169 : True := trivial
theorem law_try.tw5970807599413236569 : True := trivial
theorem law_try.tw16010518706075684793 : True := trivial
theorem law_try.tw18238102105517446073 : True := trivial
theorem law_try.tw14394222152428015577 : True := trivial
theorem law_try.tw7620559492165802010 : True := trivial
theorem law_try.tw1014022461078677530 : True := trivial
theorem law_try.tw4496379678160955418 : True := trivial
theorem law_try.tw16705686843197135930 : True := trivial
theorem law_try.tw15530142716400789594 : True := trivial
theorem law_try.tw17964804034492907706 : True := trivial
theorem law_try.tw11049411901272753370 : True := trivial
theorem law_try.tw2527171584996640986 : True := trivial
theorem law_try.tw10267450694336352474 : True := trivial
theorem law_try.tw14204790017796125946 : True := trivial
theorem law_try.tw9565270645942352122 : True := trivial
theorem law_try.tw507352191969197338 : True := trivial
theorem law_try.tw4866157760356441402 : True := trivial
theorem law_try.tw12548734866781823290 : True := trivial
theorem law_try.tw14899860974668807482 : True := trivial
theorem law_try.tw4771208643040041338 : True := trivial
theorem law_try.tw1501692567057062298 : True := trivial
theorem law_try.tw8192896012840362426 : True := trivial
theorem law_try.tw13435292680263945690 : True := trivial
theorem law_try.tw11668525149392117242 : True := trivial
theorem law_try.tw12563669651860211194 : True := trivial
theorem law_try.tw8991008198570700314 : True := trivial
theorem law_try.tw9719637406059975226 : True := trivial
theorem law_try.tw7171109075216739994 : True := trivial
theorem law_try.tw15915082478684594874 : True := trivial
theorem law_try.tw2387277168546179770 : True := trivial
theorem law_try.tw16014495493842104058 : True := trivial
theorem law_try.tw2803998349424560922 : True := trivial
theorem law_try.tw4691471328590014234 : True := trivial
theorem law_try.tw11766398316822146842 : True := trivial
theorem law_try.tw6109046261585606458 : True := trivial
theorem law_try.tw8454139480028740410 : True := trivial
theorem law_try.tw6645535045173224282 : True := trivial
theorem law_try.tw15657504226704396154 : True := trivial
theorem law_try.tw7439789731859675130 : True := trivial
theorem law_try.tw1838967699027377146 : True := trivial
theorem law_try.tw17077474835151696955 : True := trivial
theorem law_try.tw14029689853376889947 : True := trivial
theorem law_try.tw13811608135748232283 : True := trivial
theorem law_try.tw15064733164902529147 : True := trivial
theorem law_try.tw12528871235101126811 : True := trivial
theorem law_try.tw4677197439467816123 : True := trivial
theorem law_try.tw13783318583611963579 : True := trivial
theorem law_try.tw12006072476834457787 : True := trivial
theorem law_try.tw17039115559059576027 : True := trivial
theorem law_try.tw11895034638071364827 : True := trivial
theorem law_try.tw17455495429327913211 : True := trivial
theorem law_try.tw1161419369086534939 : True := trivial
theorem law_try.tw16525729553716480347 : True := trivial
theorem law_try.tw9945883055812197723 : True := trivial
theorem law_try.tw14110425195152032091 : True := trivial
theorem law_try.tw7389453848144921947 : True := trivial
theorem law_try.tw2991267447212767611 : True := trivial
theorem law_try.tw15969095871343644091 : True := trivial
theorem law_try.tw13026514723183961531 : True := trivial
theorem law_try.tw9939035463241935323 : True := trivial
theorem law_try.tw7147198523926530523 : True := trivial
theorem law_try.tw10471649894682448347 : True := trivial
theorem law_try.tw326162814259000795 : True := trivial
theorem law_try.tw1044456585283121659 : True := trivial
theorem law_try.tw76920000629055003 : True := trivial
theorem law_try.tw17207612605564836443 : True := trivial
theorem law_try.tw9946589484673199707 : True := trivial
theorem law_try.tw6680073299211844187 : True := trivial
theorem law_try.tw9077595097368569467 : True := trivial
theorem law_try.tw201097399048829563 : True := trivial
theorem law_try.tw15705194593601538715 : True := trivial
theorem law_try.tw14636691676121385627 : True := trivial
theorem law_try.tw10270456097616167611 : True := trivial
theorem law_try.tw17703728424025400027 : True := trivial
theorem law_try.tw4762103705779736347 : True := trivial
theorem law_try.tw8780228197406059291 : True := trivial
theorem law_try.tw8810596414212992859 : True := trivial
theorem law_try.tw5690485960159058811 : True := trivial
theorem law_try.tw11918679927091777435 : True := trivial
theorem law_try.tw15863303940606788507 : True := trivial
theorem law_try.tw4886767001929528251 : True := trivial
theorem law_try.tw3251790521738118139 : True := trivial
theorem law_try.tw13933004270507693084 : True := trivial
theorem law_try.tw5490307423358437404 : True := trivial
theorem law_try.tw12732624842944595004 : True := trivial
theorem law_try.tw4610705737667414108 : True := trivial
theorem law_try.tw7081171335787790428 : True := trivial
theorem law_try.tw1110763115150893148 : True := trivial
theorem law_try.tw17776035754346312796 : True := trivial
theorem law_try.tw5618313356461686908 : True := trivial
theorem law_try.tw16469590551666798780 : True := trivial
theorem law_try.tw4792665448854357212 : True := trivial
theorem law_try.tw4000730500935045340 : True := trivial
theorem law_try.tw411735905684716764 : True := trivial
theorem law_try.tw10589504264923829500 : True := trivial
theorem law_try.tw17758335187872085244 : True := trivial
theorem law_try.tw6626273187326907676 : True := trivial
theorem law_try.tw14655724645203015964 : True := trivial
theorem law_try.tw8456438508999367996 : True := trivial
theorem law_try.tw13486027020311534940 : True := trivial
theorem law_try.tw3461840061795674492 : True := trivial
theorem law_try.tw4652711256760863100 : True := trivial
theorem law_try.tw3635132769944575356 : True := trivial
theorem law_try.tw17478146123371945372 : True := trivial
theorem law_try.tw10289485508156336540 : True := trivial
theorem law_try.tw3327615933628958108 : True := trivial
theorem law_try.tw5638307336633718300 : True := trivial
theorem law_try.tw1218615142105797180 : True := trivial
theorem law_try.tw9850148038104325756 : True := trivial
theorem law_try.tw18008214319072645788 : True := trivial
theorem law_try.tw9052836867963766428 : True := trivial
theorem law_try.tw1981054321078385372 : True := trivial
theorem law_try.tw12751043295255759644 : True := trivial
theorem law_try.tw15031126682459124508 : True := trivial
theorem law_try.tw1261994773896314652 : True := trivial
theorem law_try.tw8145271560847788860 : True := trivial
theorem law_try.tw8964687613111051068 : True := trivial
theorem law_try.tw5080939307438013244 : True := trivial
theorem law_try.tw5958473383559960412 : True := trivial
theorem law_try.tw12847715464523499420 : True := trivial
theorem law_try.tw16482969707980946332 : True := trivial
theorem law_try.tw3286913307496778684 : True := trivial
theorem law_try.tw8222213633526213564 : True := trivial
theorem law_try.tw11668526853132293084 : True := trivial
theorem law_try.tw11567722412388426748 : True := trivial
theorem law_try.tw2840199881289785469 : True := trivial
theorem law_try.tw12056811515599340701 : True := trivial
theorem law_try.tw4850446846502400157 : True := trivial
theorem law_try.tw3218250596193785053 : True := trivial
theorem law_try.tw9108281331380455645 : True := trivial
theorem law_try.tw9726639048421662973 : True := trivial
theorem law_try.tw8807843255542709565 : True := trivial
theorem law_try.tw2517791838080122205 : True := trivial
theorem law_try.tw1141877713039735165 : True := trivial
theorem law_try.tw4103025411064942973 : True := trivial
theorem law_try.tw10675924062218785181 : True := trivial
theorem law_try.tw2198252135014563229 : True := trivial
theorem law_try.tw8100068576342410685 : True := trivial
theorem law_try.tw18423987006719036861 : True := trivial
theorem law_try.tw3030684219156071901 : True := trivial
theorem law_try.tw9281585839783099901 : True := trivial
theorem law_try.tw16481790900945157629 : True := trivial
theorem law_try.tw5108792960903348797 : True := trivial
theorem law_try.tw15418275757997705821 : True := trivial
theorem law_try.tw6817195819229755037 : True := trivial
theorem law_try.tw12862455172116555549 : True := trivial
theorem law_try.tw3616912323041971005 : True := trivial
theorem law_try.tw5620547300530526013 : True := trivial
theorem law_try.tw3410973355490577277 : True := trivial
theorem law_try.tw1735984465494873981 : True := trivial
theorem law_try.tw11264426833638105053 : True := trivial
theorem law_try.tw1981004828675867645 : True := trivial
theorem law_try.tw13906896096055529469 : True := trivial
theorem law_try.tw5480243533129911326 : True := trivial
theorem law_try.tw12014051954771397694 : True := trivial
theorem law_try.tw4846721387343909950 : True := trivial
theorem law_try.tw866885447319296094 : True := trivial
theorem law_try.tw4592535807196405886 : True := trivial
theorem law_try.tw10155118300943303806 : True := trivial
theorem law_try.tw13441977526331744414 : True := trivial
theorem law_try.tw7125728251281244382 : True := trivial
theorem law_try.tw1984919464087850238 : True := trivial
theorem law_try.tw5787515725152920830 : True := trivial
theorem law_try.tw13084868341390255390 : True := trivial
theorem law_try.tw4121150416094509342 : True := trivial
theorem law_try.tw4030077911650258206 : True := trivial
theorem law_try.tw3880885986224446814 : True := trivial
theorem law_try.tw3913766648103284062 : True := trivial
theorem law_try.tw16416783476512564638 : True := trivial
theorem law_try.tw10554981031836481950 : True := trivial
theorem law_try.tw15674911474615566782 : True := trivial
theorem law_try.tw7682114733888515550 : True := trivial
theorem law_try.tw6185815073709699550 : True := trivial
theorem law_try.tw5299723250095883774 : True := trivial
theorem law_try.tw8451494774153222686 : True := trivial
theorem law_try.tw8928334153905714718 : True := trivial
theorem law_try.tw14362997753092042302 : True := trivial
theorem law_try.tw17882639913095136862 : True := trivial
theorem law_try.tw17991134108631862878 : True := trivial
theorem law_try.tw8017526343045494398 : True := trivial
theorem law_try.tw8753694290942392990 : True := trivial
theorem law_try.tw4597174253496238782 : True := trivial
theorem law_try.tw14445168183368378046 : True := trivial
theorem law_try.tw15970838909668951774 : True := trivial
theorem law_try.tw5042253252921203422 : True := trivial
theorem law_try.tw11884694102438529758 : True := trivial
theorem law_try.tw13724401883731734334 : True := trivial
theorem law_try.tw10353971930608864094 : True := trivial
theorem law_try.tw6240455382672949118 : True := trivial
theorem law_try.tw16437697600393213822 : True := trivial
theorem law_try.tw13565811685074433982 : True := trivial
theorem law_try.tw3440819854303082462 : True := trivial
theorem law_try.tw548970196848287710 : True := trivial
theorem law_try.tw11195644791295639583 : True := trivial
theorem law_try.tw11256399217375853599 : True := trivial
theorem law_try.tw3370734271076581407 : True := trivial
theorem law_try.tw9434617315048878143 : True := trivial
theorem law_try.tw11728154552101229663 : True := trivial
theorem law_try.tw15412790383997487231 : True := trivial
theorem law_try.tw11029303090060999839 : True := trivial
theorem law_try.tw1424176295531287711 : True := trivial
theorem law_try.tw8726746711713344735 : True := trivial
theorem law_try.tw16689141608425026783 : True := trivial
theorem law_try.tw15215996144581830911 : True := trivial
theorem law_try.tw7855809508729708831 : True := trivial
theorem law_try.tw8069819243415891231 : True := trivial
theorem law_try.tw6906258887672796511 : True := trivial
theorem law_try.tw12358665643187215775 : True := trivial
theorem law_try.tw5982041329353399711 : True := trivial
theorem law_try.tw13586726682262691231 : True := trivial
theorem law_try.tw5910233938303260095 : True := trivial
theorem law_try.tw3025241654601044415 : True := trivial
theorem law_try.tw6921640971416763871 : True := trivial
theorem law_try.tw1317242405684430335 : True := trivial
theorem law_try.tw16819990445909698047 : True := trivial
theorem law_try.tw903647356362289663 : True := trivial
theorem law_try.tw6709594491383458335 : True := trivial
theorem law_try.tw14686046273251384895 : True := trivial
theorem law_try.tw11280218872384363103 : True := trivial
theorem law_try.tw12247780160084099743 : True := trivial
theorem law_try.tw10193916546747499199 : True := trivial
theorem law_try.tw9576700914153977535 : True := trivial
theorem law_try.tw16218827893485245183 : True := trivial
theorem law_try.tw12099323329357452031 : True := trivial
theorem law_try.tw6083788730215443231 : True := trivial
theorem law_try.tw14757313323467582239 : True := trivial
theorem law_try.tw437181076918965119 : True := trivial
theorem law_try.tw2795182767077535679 : True := trivial
theorem law_try.tw17189403678859044831 : True := trivial
theorem law_try.tw11903772307538022987 : True := trivial
theorem law_try.tw18074834132028676239 : True := trivial
theorem law_try.tw357486453476387696 : True := trivial
set_option Elab.async true in
theorem law_try : PySem.Challenge.rw_ok0119_01.Holds := by
  w_on
  o_law
  o_head (kmHook hd.heap_1 [2, 3, 15, 17, 18, 20, 21, 29, 31, 32, 34, 35, 36, 38, 39, 41, 42, 43, 44, 45, 46, 47, 50, 52, 53, 55, 56, 57, 64, 65, 67, 68, 70, 71, 72, 74, 75, 77, 78, 79, 80, 81, 82, 85, 92, 93, 94, 104, 106, 107, 109, 110, 111, 113, 114, 116, 117, 118, 120, 121, 123, 124, 125, 127, 128, 130, 131, 132, 134, 135, 137, 138, 139, 142, 143, 144, 145, 146, 147, 148, 151, 152, 154, 155, 157, 158, 166, 168, 169, 171, 172, 173, 174, 175, 176, 177, 187, 189, 190, 192, 193, 194, 196, 197, 199, 200, 201, 203, 204, 206, 207, 208, 210, 211, 213, 214, 215, 217, 218, 220, 221, 222, 223, 224, 225, 226, 229, 231, 232, 234, 235, 236, 238, 239, 241, 242, 243, 245, 246, 248, 249, 250, 252, 253, 255, 256, 264, 266, 267, 269, 270, 271, 273, 274, 276, 277, 278, 280, 281, 283, 284, 285, 287, 288, 290, 291, 292, 294, 295, 297, 298, 299, 301, 302, 304, 305, 306, 308, 309, 311, 312, 313, 315, 316, 318, 319, 320, 322, 323, 325, 326, 327, 329, 330, 332, 333, 334, 336, 337, 339, 340, 341, 343, 344, 346, 347, 348, 350, 351, 353, 354, 355, 357, 358, 360, 361, 362, 364, 365, 367, 368, 369, 371, 372, 374, 375, 376, 377, 378, 379, 380, 383, 390, 391, 393, 394, 396, 397, 398, 400, 401, 403, 404, 405, 407, 408, 410, 411, 412, 414, 415, 417, 418, 419, 420, 421, 431, 433, 434, 436, 437, 438, 440, 441, 443, 444, 445, 446, 447, 448, 450, 451, 453, 454, 455, 456, 457, 458, 460, 461, 463, 464, 465, 466, 467, 468, 471, 472, 473, 474, 475, 476, 478, 479, 481, 482, 483, 484, 485, 486, 488, 489, 491, 492, 493, 494, 495, 496, 498, 499, 501, 502, 503, 505, 506, 508, 509, 510, 512, 513, 515, 516, 517, 519, 520, 522, 523, 524, 526, 527, 529, 530, 531, 533, 534, 536, 537, 538, 540, 541, 543, 544, 545, 547, 548, 550, 551, 552, 554, 555, 557, 558, 559, 561, 562, 564, 565, 566, 568, 569, 571, 572, 573, 575, 576, 578, 579, 580, 582, 583, 585, 586, 587, 588, 589, 590, 591, 601, 603, 604, 606, 607, 608, 610, 611, 613, 614, 615, 616, 617, 618, 620, 621, 623, 624, 625, 627, 628, 630, 631, 632, 634, 635, 637, 638, 639, 641, 642, 644, 645, 646, 648, 649, 651, 652, 653, 656, 657, 658, 661, 662, 663, 664, 665, 666, 667, 677, 678, 680, 681, 683, 684, 685, 687, 688, 690, 691, 692, 694, 695, 697, 698, 699, 700, 701, 702, 703, 713, 715, 716, 718, 719, 720, 722, 723, 725, 726, 727, 729, 730, 732, 733, 734, 736, 737, 739, 740, 741, 743, 744, 746, 747, 748, 750, 751, 753, 754, 755, 758, 759, 760, 761, 762, 763, 764, 767, 768, 770, 771, 773, 774, 775, 778, 779, 780, 782, 783, 785, 786, 787, 790, 791, 792, 795, 796] (fun _ => by kernel_rfl) [769])
  case hw => w_witness2
  k_go0
  with_reducible refine no_raise ?_
  change wpAny _ (ktrTop 302 7 _ _ _ _ _ _ _ []) _ _ _ _
  try dsimp only
  k_fold
  rename_i w s0 s1 mg mb G Y fa0 ofa pm cd doc ho hcd hg XX V T0 _ _ _ ns0 _ _ _ _ _ _ _ la0 ws0 _ _ _ _ _ hI0 _ hc1 _ _ h1 tk1 oA oB oC lA lB lC _ X T B F0 N h9 l0
  replace lA : oA.data = .cell none := lA
  replace lB : oB.data = .cell none := lB
  replace lC : oC.data = .cell none := lC
  have Sr := ghost_seer hT9 (PyProof.Rows.Top.seer T0 (by decide +kernel))
  obtain ⟨m0, hm0, F⟩ : ∃ m0, m0 (Str.ofString "script") = some (.ref la0) ∧ Fr _ _ h1 m0 := ⟨_, rfl, F0⟩
  clear F0
  wtm_at "k:k1"
  k_dflt (refine wpAny_joinF (fun f h' => ShP1V6P8 (f = .next) (fun (fa : Addr) (pl : Addr) (t : Nat) (n : Nat) (tl : Led) (oT : Obj) => Fr (ghostOf s1.heap [(773, 769)]) s1.heap.objs.size h' m0) (fun (fa : Addr) (pl : Addr) (t : Nat) (n : Nat) (tl : Led) (oT : Obj) => News (ghostOf s1.heap [(773, 769)]) s1.heap.objs.size h' ((pl, listOf #[.int 0 t] n) :: (s1.heap.objs.size + 1, oT) :: (s1.heap.objs.size + 1 + 1, oB) :: (s1.heap.objs.size + 1 + 1 + 1, oA) :: tl)) (fun (fa : Addr) (pl : Addr) (t : Nat) (n : Nat) (tl : Led) (oT : Obj) => oT.data = .cell (some (.ref fa))) (fun (fa : Addr) (pl : Addr) (t : Nat) (n : Nat) (tl : Led) (oT : Obj) => TakeIn tl (.ref fa) pl) (fun (fa : Addr) (pl : Addr) (t : Nat) (n : Nat) (tl : Led) (oT : Obj) => (∃ ps, (769, tabObj ps) ∈ tl)) (fun (fa : Addr) (pl : Addr) (t : Nat) (n : Nat) (tl : Led) (oT : Obj) => (∀ p ∈ (s1.heap.objs.size + 1, oT) :: (s1.heap.objs.size + 1 + 1, oB) :: (s1.heap.objs.size + 1 + 1 + 1, oA) :: tl, p.1 ≠ pl)) (fun (fa : Addr) (pl : Addr) (t : Nat) (n : Nat) (tl : Led) (oT : Obj) => (∀ p ∈ tl, p.1 ≠ s1.heap.objs.size + 1 + 1)) (fun (fa : Addr) (pl : Addr) (t : Nat) (n : Nat) (tl : Led) (oT : Obj) => (∀ p ∈ tl, p.1 ≠ s1.heap.objs.size + 1 + 1 + 1))) ?tkr ?rest)
  case tkr =>
    wtm_at "k:go"
    · rename_i g' Lt h' tk' B' X' T' h9' l1' oo oo2 d1' d2' D' ws' h'' hI hC hL h9'' l1'' h3 o3 d3 _ le h4 h94 l14 hne lc h5 h95 l15 h6 o1 d1 _ pl h7 h97 l17 h8 o2 d2 _ f9 c9 oc9 vs9 t9 ct9 dc9 h91 tk91 d19 d29 h99 l19 l29 h92 FI NI TI XI hF oT FF NN dT
      have N1 := News.sub NN (sub_of_cons (mem_at 2 rfl) (sub_of_cons (mem_at 10 rfl) (sub_of_cons (mem_at 9 rfl) (sub_of_cons (mem_at 8 rfl) (sub_of_cons (mem_at 0 rfl) (sub_of_cons (mem_at 1 rfl) (sub_of_cons (mem_at 3 rfl) (sub_of_cons (mem_at 6 rfl) (sub_of_cons (mem_at 7 rfl) (sub_of_cons (mem_at 11 rfl) (sub_nil)))))))))))
      clear NN NI FI
      exact ⟨_, _, rfl, (by first | exact rfl | exact True.intro), f9, pl, _, _, _, oT, FF, N1, dT, ⟨⟨_, _, _, _, _, _, _, _, _, _, _, _, _, _, _, _, _, rfl, List.mem_cons_self, mem_at 1 rfl, d19, d29, mem_at 4 rfl, d1, mem_at 3 rfl, d2, mem_at 2 rfl, .cons _ _ .nil, by decide, by decide⟩⟩, ⟨_, mem_at 5 rfl⟩, by wtm_at "k:all", by wtm_at "k:all", by wtm_at "k:all"⟩
    · rename_i g' Lt h' tk' B' X' T' h9' l1' oo oo2 d1' d2' D' ws' h'' hI hC hL h9'' l1'' h3 o1 d1 _ le h4 h94 l14 hne pl h7 h97 l17 h8 o2 d2 _ f9 c9 oc9 vs9 t9 ct9 dc9 h91 tk91 d19 d29 h99 l19 l29 h92 FI NI TI XI hF oT FF NN dT
      have hz : (List.take 63 ns0).length ≠ 0 := fun e => by
        have e2 := List.eq_nil_of_length_eq_zero e
        exact absurd (decide_eq_true e2) (by rw [hne]; decide)
      have N1 := News.sub NN (sub_of_cons (mem_at 2 rfl) (sub_of_cons (mem_at 9 rfl) (sub_of_cons (mem_at 8 rfl) (sub_of_cons (mem_at 7 rfl) (sub_of_cons (mem_at 0 rfl) (sub_of_cons (mem_at 1 rfl) (sub_of_cons (mem_at 4 rfl) (sub_of_cons (mem_at 5 rfl) (sub_of_cons (mem_at 6 rfl) (sub_of_cons (mem_at 10 rfl) (sub_nil)))))))))))
      clear NN NI FI
      exact ⟨_, _, rfl, (by first | exact rfl | exact True.intro), f9, pl, _, _, _, oT, FF, N1, dT, ⟨⟨_, _, _, _, _, _, _, _, _, _, _, _, _, _, _, _, _, rfl, List.mem_cons_self, mem_at 1 rfl, d19, d29, mem_at 4 rfl, d1, mem_at 3 rfl, d2, mem_at 2 rfl, hI, by omega, by omega⟩⟩, ⟨_, mem_at 5 rfl⟩, by wtm_at "k:all", by wtm_at "k:all", by wtm_at "k:all"⟩
  case rest =>
    rintro _ h2 tk2 ⟨rfl, fa, pl, t0, n0, tl0, oT, F, N, dT, IT, ⟨psP, mP⟩, of1, of2, of3⟩
    have hbig := modules_low (Top.nolimit T)
    clear hI0 hcd ho Y hT8 h9 lC XX V T0 G
    dsimp only
    have np1 : @Ne Nat pl (s1.heap.objs.size + 1) := Ne.symm (of1 (s1.heap.objs.size + 1, oT) (by wtm_at "k:mem"))
    have np2 : @Ne Nat pl (s1.heap.objs.size + 1 + 1) := Ne.symm (of1 (s1.heap.objs.size + 1 + 1, oB) (by wtm_at "k:mem"))
    have np3 : @Ne Nat pl (s1.heap.objs.size + 1 + 1 + 1) := Ne.symm (of1 (s1.heap.objs.size + 1 + 1 + 1, oA) (by wtm_at "k:mem"))
    have hrl : recursionLimit = 1000 := rfl
    have hcl : cLine = 9900 := rfl
    wtm_at "k:go"
    rename_i r0 rt0 rk0 rh0 rs0 rj0 rj1 rh1 d dh1 o1 dlo dhs dfs dhi dfi dh9 dl1 dh2 oB' F3 N3 dB
    try clear N
    obtain ⟨rej, hrej⟩ : ∃ rej, rej = decide (0 < r0) := ⟨_, rfl⟩
    rw [← hrej] at F3
    obtain ⟨b, hb⟩ : ∃ b : Led, b = (s1.heap.objs.size + 1, oT) :: (s1.heap.objs.size + 1 + 1, oB') :: (s1.heap.objs.size + 1 + 1 + 1, oA) :: tl0 := ⟨_, rfl⟩
    have N4 : News (ghostOf s1.heap [(773, 769)]) s1.heap.objs.size dh2 ((pl, listOf #[.int (0 + 1) rk0] n0) :: (d, o1) :: ([] ++ b)) := News.sub N3 (by rw [hb, List.nil_append]; wtm_at "k:sub")
    clear N3 dhs dfs dfi
    have of4 : ∀ p ∈ b, p.1 ≠ pl := by
      rw [hb]
      exact List.forall_mem_cons.mpr ⟨Ne.symm np1, List.forall_mem_cons.mpr ⟨Ne.symm np2, List.forall_mem_cons.mpr ⟨Ne.symm np3, fun p hp => of1 p (by repeat first | exact hp | refine List.mem_cons_of_mem _ ?_)⟩⟩⟩
    have bd : ∀ p ∈ b, @LT.lt Nat _ p.1 d := by
      rw [hb]
      exact List.forall_mem_cons.mpr ⟨dl1.2.1, List.forall_mem_cons.mpr ⟨dl1.2.2.1, List.forall_mem_cons.mpr ⟨dl1.2.2.2.1, fun p hp => dh9 p (by repeat first | exact hp | refine List.mem_cons_of_mem _ ?_)⟩⟩⟩
    have np4 : @Ne Nat pl d := Nat.ne_of_lt dl1.1
    have mT : (s1.heap.objs.size + 1, oT) ∈ b := by rw [hb]; wtm_at "k:mem"
    have mA : (s1.heap.objs.size + 1 + 1 + 1, oA) ∈ b := by rw [hb]; wtm_at "k:mem"
    have mB : (s1.heap.objs.size + 1 + 1, oB') ∈ b := by rw [hb]; wtm_at "k:mem"
    have IB : TakeIn b (.ref fa) pl := IT.mono (by rw [hb]; wtm_at "k:sub")
    k_dflt (refine for_src (h₀ := ghostOf s1.heap [(773, 769)]) (by rfl) (by rfl) ?_)
    wtm_at "k:go"
    rename_i h5 tk5 t51 t52 t53 hr5 F5 N5 keep5
    first | delta Hold | ((try k_unmd); k_unfold; delta Hold) | (show Hold _; delta Hold)
    refine ⟨4, _, _, _, _, Src.range (n := 4) rfl hr5 (by decide) (by rfl), F5, N5, fun i m nx => ShV6P10 (fun k tk o kvs cts tl => nx = (pl, listOf #[.int k tk] n0) :: (d, o) :: (tl ++ b)) (fun k tk o kvs cts tl => m (Str.ofString "has_reject") = some (.bool rej)) (fun k tk o kvs cts tl => 1 ≤ k) (fun k tk o kvs cts tl => k ≤ 1 + 3 * (i : Int)) (fun k tk o kvs cts tl => o.IsDictOf (intKind prg w) kvs) (fun k tk o kvs cts tl => All2 (CutV tl) kvs cts) (fun k tk o kvs cts tl => (∀ kv ∈ kvs, 0 ≤ kv.1 ∧ kv.1 < (i : Int))) (fun k tk o kvs cts tl => kvs.length ≤ i) (fun k tk o kvs cts tl => (kvs.map (·.1)).Nodup) (fun k tk o kvs cts tl => Ap tl (pl :: d :: (s1.heap.objs.size + 1 + 1 + 1) :: [])), fun _ _ _ _ => trivial, ?j0, ?turn1, ?fin1⟩
    case j0 => exact ⟨0 + 1, rk0, o1, [], [], [], rfl, rfl, by omega, by omega, dhi, .nil, (fun _ h => nomatch h), Nat.le_refl _, .nil, Ap.nil⟩
    case turn1 =>
      intro i v m₁ nx I0 oI h tk E' hi hP hJ F6 N6 off6
      obtain ⟨k, tkk, o, kvs, cts, tl, rfl, hmr, hk1, hk2, hdo, hall, hkeys, hkl, hnd, hap⟩ := hJ
      obtain ⟨te, rfl⟩ := hP
      change Fr (ghostOf s1.heap [(773, 769)]) s1.heap.objs.size h _ at F6
      change News (ghostOf s1.heap [(773, 769)]) s1.heap.objs.size h _ at N6
      have z1 : @Ne Nat pl I0 := off6 _ List.mem_cons_self
      have z2 : @Ne Nat d I0 := off6 (d, o) (by wtm_at "k:mem")
      have z3 : ∀ p ∈ tl, p.1 ≠ I0 := fun p hp => off6 p (List.mem_cons_of_mem _ (List.mem_cons_of_mem _ (List.mem_append_left _ hp)))
      have z4 : ∀ p ∈ b, p.1 ≠ I0 := fun p hp => off6 p (List.mem_cons_of_mem _ (List.mem_cons_of_mem _ (List.mem_append_right _ hp)))
      have z5 := hap.ne (b := pl) (by wtm_at "k:mem")
      have z6 := hap.ne (b := d) (by wtm_at "k:mem")
      have z7 : ∀ p ∈ b, p.1 ≠ d := fun p hp => Nat.ne_of_lt (bd p hp)
      try clear N4 N5 F3 F5
      wtm_at "k:go"
      · rename_i bw tw rr trr tkr hx1 hx2 hrr0 hrr1 T9 hx3 FX NX ltT lsT hx4 oX FY NY DY
        have hnot : (0 + (i : Int)) ∉ kvs.map (·.1) := by
          intro hmem
          obtain ⟨kv, h1, h2⟩ := List.mem_map.mp hmem
          have := hkeys kv h1
          omega
        rw [stored_new hnot] at DY
        refine TurnEnd.next FY NY ((pl, listOf #[.int (k + 1 + 1 + 1) tkr] n0) :: (d, oX) :: (((T9, tupOf [.str (wayStr bw) tw, .int rr trr] 0) :: tl) ++ b)) (by simp only [List.cons_append]; wtm_at "k:sub") (List.forall_mem_cons.mpr ⟨z1, List.forall_mem_cons.mpr ⟨z2, List.forall_mem_append.mpr ⟨List.forall_mem_cons.mpr ⟨Nat.ne_of_gt lsT.2.2.1, z3⟩, z4⟩⟩⟩) ⟨k + 1 + 1 + 1, tkr, oX, kvs ++ [(0 + (i : Int), .ref T9)], cts ++ [(0 + (i : Int), bw, rr)], (T9, tupOf [.str (wayStr bw) tw, .int rr trr] 0) :: tl, rfl, hmr, by omega, by omega, DY, (hall.mono fun _ _ => CutV.mono (by wtm_at "k:sub")).snoc ⟨rfl, T9, tw, trr, 0, rfl, List.mem_cons_self⟩, ?_, ?_, ?_, ?_⟩
        · intro kv hkv
          rcases List.mem_append.mp hkv with h | h
          · have := hkeys kv h
            omega
          · rw [List.mem_singleton.mp h]
            show 0 ≤ 0 + (i : Int) ∧ 0 + (i : Int) < ((i + 1 : Nat) : Int)
            omega
        · rw [List.length_append]
          show kvs.length + 1 ≤ i + 1
          omega
        · rw [List.map_append]
          exact List.nodup_append.mpr ⟨hnd, by simp, fun a ha b hb e => hnot (by
            have := List.mem_singleton.mp hb
            rw [e, this] at ha
            exact ha)⟩
        · exact hap.cons (List.forall_mem_cons.mpr ⟨Nat.ne_of_gt lsT.1, List.forall_mem_cons.mpr ⟨Nat.ne_of_gt lsT.2.2.2.1, List.forall_mem_cons.mpr ⟨Nat.ne_of_gt (ltT (s1.heap.objs.size + 1 + 1 + 1, oA) (by wtm_at "k:mem")), List.forall_mem_nil _⟩⟩⟩)
      · rename_i rr trr tkr hx1 hx2 hrr0 hrr1 FY NY hne
        exact TurnEnd.next FY NY ((pl, listOf #[.int (k + 1) tkr] n0) :: (d, o) :: (tl ++ b)) (by wtm_at "k:sub") (List.forall_mem_cons.mpr ⟨z1, List.forall_mem_cons.mpr ⟨z2, List.forall_mem_append.mpr ⟨z3, z4⟩⟩⟩) ⟨k + 1, tkr, o, kvs, cts, tl, rfl, hmr, by omega, by omega, hdo, hall, fun kv h => (by have := hkeys kv h; omega), by omega, hnd, hap⟩
    case fin1 =>
      intro h22 tk22 m₂ nx F22 N22 hJ
      obtain ⟨k, tkk, o, kvs, cts, tl, rfl, hmr, hk1, hk2, hdo, hall, hkeys, hkl, hnd, hap⟩ := hJ
      change Fr (ghostOf s1.heap [(773, 769)]) s1.heap.objs.size h22 _ at F22
      change News (ghostOf s1.heap [(773, 769)]) s1.heap.objs.size h22 _ at N22
      try clear N4 N5 F3 F5
      have z5 := hap.ne (b := pl) (by wtm_at "k:mem")
      wtm_at "k:go"
      rename_i v0 k0 tk0 tla r0' t0' hh1 hs1 hk01 hk02 H0 A0 ap0 v1 k1 tk1 tlb r1 t1 hh2 hs2 hk11 hk12 H1 A1 ap1 la hl FL NL ltL lsL
      obtain ⟨X9, hX9⟩ : ∃ X9 : Led, X9 = tlb ++ (tla ++ ((d, o) :: (tl ++ tl0))) := ⟨_, rfl⟩
      have sb0 : ∀ p ∈ tl0, p ∈ b := by rw [hb]; wtm_at "k:sub"
      have mC3 : s1.heap.objs.size + 1 + 1 + 1 ∈ ((d, o) :: (tl ++ b)).map (·.1) := mem_adr (o := oA) (by wtm_at "k:mem")
      have mC3' : s1.heap.objs.size + 1 + 1 + 1 ∈ (tla ++ (d, o) :: (tl ++ b)).map (·.1) := mem_adr (o := oA) (by wtm_at "k:mem")
      have ofX3 : ∀ p ∈ X9, p.1 ≠ s1.heap.objs.size + 1 + 1 + 1 := by
        rw [hX9]
        exact List.forall_mem_append.mpr ⟨ap1.ne (List.mem_cons_of_mem _ mC3'), List.forall_mem_append.mpr ⟨ap0.ne (List.mem_cons_of_mem _ mC3), List.forall_mem_cons.mpr ⟨Nat.ne_of_gt (bd _ mA), List.forall_mem_append.mpr ⟨hap.ne (by wtm_at "k:mem"), of3⟩⟩⟩⟩
      have ofXp : ∀ p ∈ X9, p.1 ≠ pl := by
        rw [hX9]
        exact List.forall_mem_append.mpr ⟨ap1.ne List.mem_cons_self, List.forall_mem_append.mpr ⟨ap0.ne List.mem_cons_self, List.forall_mem_cons.mpr ⟨Ne.symm np4, List.forall_mem_append.mpr ⟨z5, fun p hp => of4 p (sb0 p hp)⟩⟩⟩⟩
      have N7 : News (ghostOf s1.heap [(773, 769)]) s1.heap.objs.size hl ((la, listOf (List.toArray [v0, v1]) 0) :: (s1.heap.objs.size + 1 + 1 + 1, oA) :: (s1.heap.objs.size + 1 + 1, oB') :: (s1.heap.objs.size + 1, oT) :: (pl, listOf #[.int k1 tk1] n0) :: X9) := News.sub NL (by rw [hX9]; wtm_at "k:sub")
      have CX : CutsL w X9 (.ref d) cts := ⟨d, o, kvs, rfl, by rw [hX9]; wtm_at "k:mem", hdo, dlo, hall.mono fun _ _ => CutV.mono (by rw [hX9]; wtm_at "k:sub")⟩
      have hcutX : All2 (CutV X9) kvs cts := hall.mono fun _ _ => CutV.mono (by rw [hX9]; wtm_at "k:sub")
      have AX0 : AutoL X9 v0 r0' t0' := A0.mono (by rw [hX9]; wtm_at "k:sub")
      have AX1 : AutoL X9 v1 r1 t1 := A1.mono (by rw [hX9]; wtm_at "k:sub")
      have mPX : ((769, tabObj psP) : Addr × Obj) ∈ X9 := by rw [hX9]; exact List.mem_append_right _ (List.mem_append_right _ (List.mem_cons_of_mem _ (List.mem_append_right _ mP)))
      have IX : TakeIn X9 (.ref fa) pl := IT.mono (by rw [hX9]; wtm_at "k:sub")
      have mdX : (d, o) ∈ X9 := by rw [hX9]; wtm_at "k:mem"
      have nla : @Ne Nat la (s1.heap.objs.size + 1 + 1 + 1) := Nat.ne_of_gt (ltL (s1.heap.objs.size + 1 + 1 + 1, oA) (by wtm_at "k:mem"))
      have lpla : @LT.lt Nat _ pl la := lsL.1
      have hkb : 1 ≤ k1 ∧ k1 ≤ 60 := by omega
      clear hX9 NL A0 A1 ap0 ap1 ltL lsL IB IT mT mB mA of4 of1 of3 of2 bd mC3 mC3' sb0 hap z5 hb dh9 dl1
      wtm_at "k:go"
      rename_i hm1 oA' FA NA dA
      try clear N7
      obtain ⟨b2, hb2⟩ : ∃ b2 : Led, b2 = (la, listOf (List.toArray [v0, v1]) 0) :: (s1.heap.objs.size + 1 + 1 + 1, oA') :: (s1.heap.objs.size + 1 + 1, oB') :: (s1.heap.objs.size + 1, oT) :: X9 := ⟨_, rfl⟩
      have N8 : News (ghostOf s1.heap [(773, 769)]) s1.heap.objs.size hm1 ((pl, listOf #[.int k1 tk1] n0) :: b2) := News.sub NA (by rw [hb2]; wtm_at "k:sub")
      have of5 : ∀ p ∈ b2, p.1 ≠ pl := by
        rw [hb2]
        exact List.forall_mem_cons.mpr ⟨Nat.ne_of_gt lpla, List.forall_mem_cons.mpr ⟨Ne.symm np3, List.forall_mem_cons.mpr ⟨Ne.symm np2, List.forall_mem_cons.mpr ⟨Ne.symm np1, ofXp⟩⟩⟩⟩
      have mT : (s1.heap.objs.size + 1, oT) ∈ b2 := by rw [hb2]; wtm_at "k:mem"
      have mB : (s1.heap.objs.size + 1 + 1, oB') ∈ b2 := by rw [hb2]; wtm_at "k:mem"
      have mA : (s1.heap.objs.size + 1 + 1 + 1, oA') ∈ b2 := by rw [hb2]; wtm_at "k:mem"
      have mla : (la, listOf (List.toArray [v0, v1]) 0) ∈ b2 := by rw [hb2]; wtm_at "k:mem"
      have sX : ∀ p ∈ X9, p ∈ b2 := by rw [hb2]; wtm_at "k:sub"
      have IX2 : TakeIn b2 (.ref fa) pl := IX.mono sX
      try clear NA
      k_dflt (refine wpAny_joinF (fun f h' => ShP1V5P8 (f = .next) (fun (k : Int) (tk : Nat) (cs : List Nat) (t9 : Tok) (m' : Str → Option Value) => Fr (ghostOf s1.heap [(773, 769)]) s1.heap.objs.size h' m') (fun (k : Int) (tk : Nat) (cs : List Nat) (t9 : Tok) (m' : Str → Option Value) => News (ghostOf s1.heap [(773, 769)]) s1.heap.objs.size h' ((pl, listOf #[.int k tk] n0) :: b2)) (fun (k : Int) (tk : Nat) (cs : List Nat) (t9 : Tok) (m' : Str → Option Value) => 1 ≤ k) (fun (k : Int) (tk : Nat) (cs : List Nat) (t9 : Tok) (m' : Str → Option Value) => k ≤ 100) (fun (k : Int) (tk : Nat) (cs : List Nat) (t9 : Tok) (m' : Str → Option Value) => cs.length ≤ 6) (fun (k : Int) (tk : Nat) (cs : List Nat) (t9 : Tok) (m' : Str → Option Value) => (∀ c ∈ cs, Abn c)) (fun (k : Int) (tk : Nat) (cs : List Nat) (t9 : Tok) (m' : Str → Option Value) => m' (Str.ofString "text") = some (.str ⟨cs.toArray⟩ t9)) (fun (k : Int) (tk : Nat) (cs : List Nat) (t9 : Tok) (m' : Str → Option Value) => m' (Str.ofString "has_reject") = some (.bool rej))) ?txt ?rest2)
      case rest2 =>
        rintro _ h3 tk3 ⟨rfl, k, tkk, cs, t9, m', F, N, hk1', hk2', hc6, hcs, hmx, hmr'⟩
        dsimp only
        have hx9 : ∀ (i c : Nat), (⟨cs.toArray⟩ : Str).cps[i]? = some c → Abn c := fun i c h => hcs c (List.mem_of_getElem? (by simpa using h))
        refine law_tail_at ?hsc ?hbo B X T Sr hbig F N mT dT mB dB mA dA ⟨sX _ mdX, hdo, dlo, hcutX.mono fun _ _ => CutV.mono sX, hkl, hnd, mla, AX0.mono sX, AX1.mono sX, H0, H1⟩ IX2 of5 hk1' hk2' hmx hmr' hx9 ?z (sX _ mPX) ?ret
        case hsc => rfl
        case hbo => rfl
        case z => simpa using hc6
        case ret =>
          intro h' tks m' FF hP
          show _ ∧ _
          refine ⟨?gd, ⟨psP, hP⟩, True.intro⟩
          case gd =>
            dsimp only
            first | wrow_close | (k_end; wrow_close)
      case txt =>
        wtm_at "k:k1"
        wtm_at "k:go"
        k_dflt (refine comp_U (h₀ := ghostOf s1.heap [(773, 769)]) (L := s1.heap.objs.size) (by with_unfolding_all rfl) (by decide) (by rfl) (by decide) (by rfl) ?_)
        wtm_at "k:go"
        rename_i rM _ kM _ _ rM0 rM1 _ _ hM tkM tM1 tM2 tM3 hrM FM NM keepM
        obtain ⟨M, rfl⟩ : ∃ M : Nat, rM = (M : Int) := ⟨rM.toNat, by omega⟩
        first | delta Hold | ((try k_unmd); k_unfold; delta Hold) | (show Hold _; delta Hold)
        refine ⟨M, _, _, _, _, Src.range (n := M) rfl hrM (small_nat (by omega)) size_nat, by rw [sizeLine_eq]; omega, FM, NM, fun i ys nx => ShV3P6 (fun (k : Int) (tk : Nat) (cs : List Nat) => nx = (pl, listOf #[.int k tk] n0) :: b2) (fun (k : Int) (tk : Nat) (cs : List Nat) => 1 ≤ k) (fun (k : Int) (tk : Nat) (cs : List Nat) => k ≤ 61 + (i : Int)) (fun (k : Int) (tk : Nat) (cs : List Nat) => cs.length = i) (fun (k : Int) (tk : Nat) (cs : List Nat) => StrsAre ys (cs.map fun c => (⟨#[c]⟩ : Str))) (fun (k : Int) (tk : Nat) (cs : List Nat) => ∀ c ∈ cs, Abn c), fun _ _ _ _ => trivial, ?t0, ?tturn, ?tfin⟩
        case t0 => exact ⟨k1 + 1, kM, [], rfl, by omega, by omega, rfl, .nil, fun _ h => nomatch h⟩
        case tturn =>
          intro i v ys nx I0 oI C0 oC D0 mm h tk E' hi hP hJ hC hx F4 N4 off4 ne4
          obtain ⟨k, tkk, cs, rfl, hka, hkb', hcl, hys, hcs⟩ := hJ
          have hplI := off4.mem _ List.mem_cons_self
          have q1 : @Ne Nat pl I0 := hplI.1
          have q2 : @Ne Nat pl C0 := hplI.2.1
          have q3 : @Ne Nat pl D0 := hplI.2.2
          try clear NM FM
          wtm_at "k:go"
          rename_i rr trr tkr hx1 hx2 hrr0 hrr1 FY NY cc tcc tkc hcc
          refine CompEnd.intro FY NY ((pl, listOf #[.int (k + 1) tkr] n0) :: b2) (by wtm_at "k:sub") off4 trivial ⟨k + 1, tkr, cs ++ [cc], rfl, by omega, by omega, by simp [hcl], ?_, mem_snocL hcs hcc⟩
          rw [List.map_append]
          exact strs_snoc hys
        case tfin =>
          intro ys nx D h9 tk9 hJ F9 N9 o19
          obtain ⟨k, tkk, cs, rfl, hka, hkb', hcl, hys, hcs⟩ := hJ
          have o20 := Off1.all o19
          have hc100 : cs.length ≤ 100 := by omega
          try clear NM FM
          iterate 4 (wtm_at "k:k1")
          rename_i t9 tk9' hY FY NY
          exact ⟨_, _, rfl, (by first | exact rfl | exact True.intro), k, tkk, cs, t9, _, FY, News.sub NY (by wtm_at "k:sub"), hka, by omega, by omega, hcs, rfl, hmr⟩
end
end Mine
theorem PySem.Challenge.cw_ok0119_01_holds : PySem.Challenge.rw_ok0119_01.Holds := by
  exact Mine.law_try
