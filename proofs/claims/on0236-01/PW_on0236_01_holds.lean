import PyProof.Rows.All
import Wide.All
import OpenK.AllK
import Wide.FinOn
import Lean
import PySem.Challenge.RW_on0236_01
open PySem PySem.W PyProof.Rows PySem.Calls PySem.Spec
set_option Elab.async false
set_option maxRecDepth 100000
set_option maxHeartbeats 8000000
namespace Mine
-- part H0
/-- the statements of the text: read off the given term by unification; none is typed here -/
noncomputable abbrev S.s0 : Stmt := (fun (x0 x1 x2 x3 x4 x5 x6 x7 x8 x9 x10 x11 x12 x13 x14 x15 x16 x17 x18 x19 x20 x21 x22 x23 x24 x25 x26 x27 x28 x29 x30 x31 x32 x33 x34 x35 x36 x37 x38 x39 x40 x41 x42 : Stmt) (_ : PySem.Challenge.pw_on0236_01.main.body = [x0, x1, x2, x3, x4, x5, x6, x7, x8, x9, x10, x11, x12, x13, x14, x15, x16, x17, x18, x19, x20, x21, x22, x23, x24, x25, x26, x27, x28, x29, x30, x31, x32, x33, x34, x35, x36, x37, x38, x39, x40, x41, x42]) => x0) _ _ _ _ _ _ _ _ _ _ _ _ _ _ _ _ _ _ _ _ _ _ _ _ _ _ _ _ _ _ _ _ _ _ _ _ _ _ _ _ _ _ _ rfl
noncomputable abbrev S.s1 : Stmt := (fun (x0 x1 x2 x3 x4 x5 x6 x7 x8 x9 x10 x11 x12 x13 x14 x15 x16 x17 x18 x19 x20 x21 x22 x23 x24 x25 x26 x27 x28 x29 x30 x31 x32 x33 x34 x35 x36 x37 x38 x39 x40 x41 x42 : Stmt) (_ : PySem.Challenge.pw_on0236_01.main.body = [x0, x1, x2, x3, x4, x5, x6, x7, x8, x9, x10, x11, x12, x13, x14, x15, x16, x17, x18, x19, x20, x21, x22, x23, x24, x25, x26, x27, x28, x29, x30, x31, x32, x33, x34, x35, x36, x37, x38, x39, x40, x41, x42]) => x1) _ _ _ _ _ _ _ _ _ _ _ _ _ _ _ _ _ _ _ _ _ _ _ _ _ _ _ _ _ _ _ _ _ _ _ _ _ _ _ _ _ _ _ rfl
noncomputable abbrev S.s2 : Stmt := (fun (x0 x1 x2 x3 x4 x5 x6 x7 x8 x9 x10 x11 x12 x13 x14 x15 x16 x17 x18 x19 x20 x21 x22 x23 x24 x25 x26 x27 x28 x29 x30 x31 x32 x33 x34 x35 x36 x37 x38 x39 x40 x41 x42 : Stmt) (_ : PySem.Challenge.pw_on0236_01.main.body = [x0, x1, x2, x3, x4, x5, x6, x7, x8, x9, x10, x11, x12, x13, x14, x15, x16, x17, x18, x19, x20, x21, x22, x23, x24, x25, x26, x27, x28, x29, x30, x31, x32, x33, x34, x35, x36, x37, x38, x39, x40, x41, x42]) => x2) _ _ _ _ _ _ _ _ _ _ _ _ _ _ _ _ _ _ _ _ _ _ _ _ _ _ _ _ _ _ _ _ _ _ _ _ _ _ _ _ _ _ _ rfl
noncomputable abbrev S.s3 : Stmt := (fun (x0 x1 x2 x3 x4 x5 x6 x7 x8 x9 x10 x11 x12 x13 x14 x15 x16 x17 x18 x19 x20 x21 x22 x23 x24 x25 x26 x27 x28 x29 x30 x31 x32 x33 x34 x35 x36 x37 x38 x39 x40 x41 x42 : Stmt) (_ : PySem.Challenge.pw_on0236_01.main.body = [x0, x1, x2, x3, x4, x5, x6, x7, x8, x9, x10, x11, x12, x13, x14, x15, x16, x17, x18, x19, x20, x21, x22, x23, x24, x25, x26, x27, x28, x29, x30, x31, x32, x33, x34, x35, x36, x37, x38, x39, x40, x41, x42]) => x3) _ _ _ _ _ _ _ _ _ _ _ _ _ _ _ _ _ _ _ _ _ _ _ _ _ _ _ _ _ _ _ _ _ _ _ _ _ _ _ _ _ _ _ rfl
noncomputable abbrev S.s4 : Stmt := (fun (x0 x1 x2 x3 x4 x5 x6 x7 x8 x9 x10 x11 x12 x13 x14 x15 x16 x17 x18 x19 x20 x21 x22 x23 x24 x25 x26 x27 x28 x29 x30 x31 x32 x33 x34 x35 x36 x37 x38 x39 x40 x41 x42 : Stmt) (_ : PySem.Challenge.pw_on0236_01.main.body = [x0, x1, x2, x3, x4, x5, x6, x7, x8, x9, x10, x11, x12, x13, x14, x15, x16, x17, x18, x19, x20, x21, x22, x23, x24, x25, x26, x27, x28, x29, x30, x31, x32, x33, x34, x35, x36, x37, x38, x39, x40, x41, x42]) => x4) _ _ _ _ _ _ _ _ _ _ _ _ _ _ _ _ _ _ _ _ _ _ _ _ _ _ _ _ _ _ _ _ _ _ _ _ _ _ _ _ _ _ _ rfl
noncomputable abbrev S.s5 : Stmt := (fun (x0 x1 x2 x3 x4 x5 x6 x7 x8 x9 x10 x11 x12 x13 x14 x15 x16 x17 x18 x19 x20 x21 x22 x23 x24 x25 x26 x27 x28 x29 x30 x31 x32 x33 x34 x35 x36 x37 x38 x39 x40 x41 x42 : Stmt) (_ : PySem.Challenge.pw_on0236_01.main.body = [x0, x1, x2, x3, x4, x5, x6, x7, x8, x9, x10, x11, x12, x13, x14, x15, x16, x17, x18, x19, x20, x21, x22, x23, x24, x25, x26, x27, x28, x29, x30, x31, x32, x33, x34, x35, x36, x37, x38, x39, x40, x41, x42]) => x5) _ _ _ _ _ _ _ _ _ _ _ _ _ _ _ _ _ _ _ _ _ _ _ _ _ _ _ _ _ _ _ _ _ _ _ _ _ _ _ _ _ _ _ rfl
noncomputable abbrev S.s6 : Stmt := (fun (x0 x1 x2 x3 x4 x5 x6 x7 x8 x9 x10 x11 x12 x13 x14 x15 x16 x17 x18 x19 x20 x21 x22 x23 x24 x25 x26 x27 x28 x29 x30 x31 x32 x33 x34 x35 x36 x37 x38 x39 x40 x41 x42 : Stmt) (_ : PySem.Challenge.pw_on0236_01.main.body = [x0, x1, x2, x3, x4, x5, x6, x7, x8, x9, x10, x11, x12, x13, x14, x15, x16, x17, x18, x19, x20, x21, x22, x23, x24, x25, x26, x27, x28, x29, x30, x31, x32, x33, x34, x35, x36, x37, x38, x39, x40, x41, x42]) => x6) _ _ _ _ _ _ _ _ _ _ _ _ _ _ _ _ _ _ _ _ _ _ _ _ _ _ _ _ _ _ _ _ _ _ _ _ _ _ _ _ _ _ _ rfl
noncomputable abbrev S.s7 : Stmt := (fun (x0 x1 x2 x3 x4 x5 x6 x7 x8 x9 x10 x11 x12 x13 x14 x15 x16 x17 x18 x19 x20 x21 x22 x23 x24 x25 x26 x27 x28 x29 x30 x31 x32 x33 x34 x35 x36 x37 x38 x39 x40 x41 x42 : Stmt) (_ : PySem.Challenge.pw_on0236_01.main.body = [x0, x1, x2, x3, x4, x5, x6, x7, x8, x9, x10, x11, x12, x13, x14, x15, x16, x17, x18, x19, x20, x21, x22, x23, x24, x25, x26, x27, x28, x29, x30, x31, x32, x33, x34, x35, x36, x37, x38, x39, x40, x41, x42]) => x7) _ _ _ _ _ _ _ _ _ _ _ _ _ _ _ _ _ _ _ _ _ _ _ _ _ _ _ _ _ _ _ _ _ _ _ _ _ _ _ _ _ _ _ rfl
noncomputable abbrev S.s8 : Stmt := (fun (x0 x1 x2 x3 x4 x5 x6 x7 x8 x9 x10 x11 x12 x13 x14 x15 x16 x17 x18 x19 x20 x21 x22 x23 x24 x25 x26 x27 x28 x29 x30 x31 x32 x33 x34 x35 x36 x37 x38 x39 x40 x41 x42 : Stmt) (_ : PySem.Challenge.pw_on0236_01.main.body = [x0, x1, x2, x3, x4, x5, x6, x7, x8, x9, x10, x11, x12, x13, x14, x15, x16, x17, x18, x19, x20, x21, x22, x23, x24, x25, x26, x27, x28, x29, x30, x31, x32, x33, x34, x35, x36, x37, x38, x39, x40, x41, x42]) => x8) _ _ _ _ _ _ _ _ _ _ _ _ _ _ _ _ _ _ _ _ _ _ _ _ _ _ _ _ _ _ _ _ _ _ _ _ _ _ _ _ _ _ _ rfl
noncomputable abbrev S.s9 : Stmt := (fun (x0 x1 x2 x3 x4 x5 x6 x7 x8 x9 x10 x11 x12 x13 x14 x15 x16 x17 x18 x19 x20 x21 x22 x23 x24 x25 x26 x27 x28 x29 x30 x31 x32 x33 x34 x35 x36 x37 x38 x39 x40 x41 x42 : Stmt) (_ : PySem.Challenge.pw_on0236_01.main.body = [x0, x1, x2, x3, x4, x5, x6, x7, x8, x9, x10, x11, x12, x13, x14, x15, x16, x17, x18, x19, x20, x21, x22, x23, x24, x25, x26, x27, x28, x29, x30, x31, x32, x33, x34, x35, x36, x37, x38, x39, x40, x41, x42]) => x9) _ _ _ _ _ _ _ _ _ _ _ _ _ _ _ _ _ _ _ _ _ _ _ _ _ _ _ _ _ _ _ _ _ _ _ _ _ _ _ _ _ _ _ rfl
noncomputable abbrev S.s10 : Stmt := (fun (x0 x1 x2 x3 x4 x5 x6 x7 x8 x9 x10 x11 x12 x13 x14 x15 x16 x17 x18 x19 x20 x21 x22 x23 x24 x25 x26 x27 x28 x29 x30 x31 x32 x33 x34 x35 x36 x37 x38 x39 x40 x41 x42 : Stmt) (_ : PySem.Challenge.pw_on0236_01.main.body = [x0, x1, x2, x3, x4, x5, x6, x7, x8, x9, x10, x11, x12, x13, x14, x15, x16, x17, x18, x19, x20, x21, x22, x23, x24, x25, x26, x27, x28, x29, x30, x31, x32, x33, x34, x35, x36, x37, x38, x39, x40, x41, x42]) => x10) _ _ _ _ _ _ _ _ _ _ _ _ _ _ _ _ _ _ _ _ _ _ _ _ _ _ _ _ _ _ _ _ _ _ _ _ _ _ _ _ _ _ _ rfl
noncomputable abbrev S.s11 : Stmt := (fun (x0 x1 x2 x3 x4 x5 x6 x7 x8 x9 x10 x11 x12 x13 x14 x15 x16 x17 x18 x19 x20 x21 x22 x23 x24 x25 x26 x27 x28 x29 x30 x31 x32 x33 x34 x35 x36 x37 x38 x39 x40 x41 x42 : Stmt) (_ : PySem.Challenge.pw_on0236_01.main.body = [x0, x1, x2, x3, x4, x5, x6, x7, x8, x9, x10, x11, x12, x13, x14, x15, x16, x17, x18, x19, x20, x21, x22, x23, x24, x25, x26, x27, x28, x29, x30, x31, x32, x33, x34, x35, x36, x37, x38, x39, x40, x41, x42]) => x11) _ _ _ _ _ _ _ _ _ _ _ _ _ _ _ _ _ _ _ _ _ _ _ _ _ _ _ _ _ _ _ _ _ _ _ _ _ _ _ _ _ _ _ rfl
noncomputable abbrev S.s12 : Stmt := (fun (x0 x1 x2 x3 x4 x5 x6 x7 x8 x9 x10 x11 x12 x13 x14 x15 x16 x17 x18 x19 x20 x21 x22 x23 x24 x25 x26 x27 x28 x29 x30 x31 x32 x33 x34 x35 x36 x37 x38 x39 x40 x41 x42 : Stmt) (_ : PySem.Challenge.pw_on0236_01.main.body = [x0, x1, x2, x3, x4, x5, x6, x7, x8, x9, x10, x11, x12, x13, x14, x15, x16, x17, x18, x19, x20, x21, x22, x23, x24, x25, x26, x27, x28, x29, x30, x31, x32, x33, x34, x35, x36, x37, x38, x39, x40, x41, x42]) => x12) _ _ _ _ _ _ _ _ _ _ _ _ _ _ _ _ _ _ _ _ _ _ _ _ _ _ _ _ _ _ _ _ _ _ _ _ _ _ _ _ _ _ _ rfl
noncomputable abbrev S.s13 : Stmt := (fun (x0 x1 x2 x3 x4 x5 x6 x7 x8 x9 x10 x11 x12 x13 x14 x15 x16 x17 x18 x19 x20 x21 x22 x23 x24 x25 x26 x27 x28 x29 x30 x31 x32 x33 x34 x35 x36 x37 x38 x39 x40 x41 x42 : Stmt) (_ : PySem.Challenge.pw_on0236_01.main.body = [x0, x1, x2, x3, x4, x5, x6, x7, x8, x9, x10, x11, x12, x13, x14, x15, x16, x17, x18, x19, x20, x21, x22, x23, x24, x25, x26, x27, x28, x29, x30, x31, x32, x33, x34, x35, x36, x37, x38, x39, x40, x41, x42]) => x13) _ _ _ _ _ _ _ _ _ _ _ _ _ _ _ _ _ _ _ _ _ _ _ _ _ _ _ _ _ _ _ _ _ _ _ _ _ _ _ _ _ _ _ rfl
noncomputable abbrev S.s14 : Stmt := (fun (x0 x1 x2 x3 x4 x5 x6 x7 x8 x9 x10 x11 x12 x13 x14 x15 x16 x17 x18 x19 x20 x21 x22 x23 x24 x25 x26 x27 x28 x29 x30 x31 x32 x33 x34 x35 x36 x37 x38 x39 x40 x41 x42 : Stmt) (_ : PySem.Challenge.pw_on0236_01.main.body = [x0, x1, x2, x3, x4, x5, x6, x7, x8, x9, x10, x11, x12, x13, x14, x15, x16, x17, x18, x19, x20, x21, x22, x23, x24, x25, x26, x27, x28, x29, x30, x31, x32, x33, x34, x35, x36, x37, x38, x39, x40, x41, x42]) => x14) _ _ _ _ _ _ _ _ _ _ _ _ _ _ _ _ _ _ _ _ _ _ _ _ _ _ _ _ _ _ _ _ _ _ _ _ _ _ _ _ _ _ _ rfl
noncomputable abbrev S.s15 : Stmt := (fun (x0 x1 x2 x3 x4 x5 x6 x7 x8 x9 x10 x11 x12 x13 x14 x15 x16 x17 x18 x19 x20 x21 x22 x23 x24 x25 x26 x27 x28 x29 x30 x31 x32 x33 x34 x35 x36 x37 x38 x39 x40 x41 x42 : Stmt) (_ : PySem.Challenge.pw_on0236_01.main.body = [x0, x1, x2, x3, x4, x5, x6, x7, x8, x9, x10, x11, x12, x13, x14, x15, x16, x17, x18, x19, x20, x21, x22, x23, x24, x25, x26, x27, x28, x29, x30, x31, x32, x33, x34, x35, x36, x37, x38, x39, x40, x41, x42]) => x15) _ _ _ _ _ _ _ _ _ _ _ _ _ _ _ _ _ _ _ _ _ _ _ _ _ _ _ _ _ _ _ _ _ _ _ _ _ _ _ _ _ _ _ rfl
noncomputable abbrev S.s16 : Stmt := (fun (x0 x1 x2 x3 x4 x5 x6 x7 x8 x9 x10 x11 x12 x13 x14 x15 x16 x17 x18 x19 x20 x21 x22 x23 x24 x25 x26 x27 x28 x29 x30 x31 x32 x33 x34 x35 x36 x37 x38 x39 x40 x41 x42 : Stmt) (_ : PySem.Challenge.pw_on0236_01.main.body = [x0, x1, x2, x3, x4, x5, x6, x7, x8, x9, x10, x11, x12, x13, x14, x15, x16, x17, x18, x19, x20, x21, x22, x23, x24, x25, x26, x27, x28, x29, x30, x31, x32, x33, x34, x35, x36, x37, x38, x39, x40, x41, x42]) => x16) _ _ _ _ _ _ _ _ _ _ _ _ _ _ _ _ _ _ _ _ _ _ _ _ _ _ _ _ _ _ _ _ _ _ _ _ _ _ _ _ _ _ _ rfl
noncomputable abbrev S.s17 : Stmt := (fun (x0 x1 x2 x3 x4 x5 x6 x7 x8 x9 x10 x11 x12 x13 x14 x15 x16 x17 x18 x19 x20 x21 x22 x23 x24 x25 x26 x27 x28 x29 x30 x31 x32 x33 x34 x35 x36 x37 x38 x39 x40 x41 x42 : Stmt) (_ : PySem.Challenge.pw_on0236_01.main.body = [x0, x1, x2, x3, x4, x5, x6, x7, x8, x9, x10, x11, x12, x13, x14, x15, x16, x17, x18, x19, x20, x21, x22, x23, x24, x25, x26, x27, x28, x29, x30, x31, x32, x33, x34, x35, x36, x37, x38, x39, x40, x41, x42]) => x17) _ _ _ _ _ _ _ _ _ _ _ _ _ _ _ _ _ _ _ _ _ _ _ _ _ _ _ _ _ _ _ _ _ _ _ _ _ _ _ _ _ _ _ rfl
noncomputable abbrev S.s18 : Stmt := (fun (x0 x1 x2 x3 x4 x5 x6 x7 x8 x9 x10 x11 x12 x13 x14 x15 x16 x17 x18 x19 x20 x21 x22 x23 x24 x25 x26 x27 x28 x29 x30 x31 x32 x33 x34 x35 x36 x37 x38 x39 x40 x41 x42 : Stmt) (_ : PySem.Challenge.pw_on0236_01.main.body = [x0, x1, x2, x3, x4, x5, x6, x7, x8, x9, x10, x11, x12, x13, x14, x15, x16, x17, x18, x19, x20, x21, x22, x23, x24, x25, x26, x27, x28, x29, x30, x31, x32, x33, x34, x35, x36, x37, x38, x39, x40, x41, x42]) => x18) _ _ _ _ _ _ _ _ _ _ _ _ _ _ _ _ _ _ _ _ _ _ _ _ _ _ _ _ _ _ _ _ _ _ _ _ _ _ _ _ _ _ _ rfl
noncomputable abbrev S.s19 : Stmt := (fun (x0 x1 x2 x3 x4 x5 x6 x7 x8 x9 x10 x11 x12 x13 x14 x15 x16 x17 x18 x19 x20 x21 x22 x23 x24 x25 x26 x27 x28 x29 x30 x31 x32 x33 x34 x35 x36 x37 x38 x39 x40 x41 x42 : Stmt) (_ : PySem.Challenge.pw_on0236_01.main.body = [x0, x1, x2, x3, x4, x5, x6, x7, x8, x9, x10, x11, x12, x13, x14, x15, x16, x17, x18, x19, x20, x21, x22, x23, x24, x25, x26, x27, x28, x29, x30, x31, x32, x33, x34, x35, x36, x37, x38, x39, x40, x41, x42]) => x19) _ _ _ _ _ _ _ _ _ _ _ _ _ _ _ _ _ _ _ _ _ _ _ _ _ _ _ _ _ _ _ _ _ _ _ _ _ _ _ _ _ _ _ rfl
noncomputable abbrev S.s20 : Stmt := (fun (x0 x1 x2 x3 x4 x5 x6 x7 x8 x9 x10 x11 x12 x13 x14 x15 x16 x17 x18 x19 x20 x21 x22 x23 x24 x25 x26 x27 x28 x29 x30 x31 x32 x33 x34 x35 x36 x37 x38 x39 x40 x41 x42 : Stmt) (_ : PySem.Challenge.pw_on0236_01.main.body = [x0, x1, x2, x3, x4, x5, x6, x7, x8, x9, x10, x11, x12, x13, x14, x15, x16, x17, x18, x19, x20, x21, x22, x23, x24, x25, x26, x27, x28, x29, x30, x31, x32, x33, x34, x35, x36, x37, x38, x39, x40, x41, x42]) => x20) _ _ _ _ _ _ _ _ _ _ _ _ _ _ _ _ _ _ _ _ _ _ _ _ _ _ _ _ _ _ _ _ _ _ _ _ _ _ _ _ _ _ _ rfl
noncomputable abbrev S.s21 : Stmt := (fun (x0 x1 x2 x3 x4 x5 x6 x7 x8 x9 x10 x11 x12 x13 x14 x15 x16 x17 x18 x19 x20 x21 x22 x23 x24 x25 x26 x27 x28 x29 x30 x31 x32 x33 x34 x35 x36 x37 x38 x39 x40 x41 x42 : Stmt) (_ : PySem.Challenge.pw_on0236_01.main.body = [x0, x1, x2, x3, x4, x5, x6, x7, x8, x9, x10, x11, x12, x13, x14, x15, x16, x17, x18, x19, x20, x21, x22, x23, x24, x25, x26, x27, x28, x29, x30, x31, x32, x33, x34, x35, x36, x37, x38, x39, x40, x41, x42]) => x21) _ _ _ _ _ _ _ _ _ _ _ _ _ _ _ _ _ _ _ _ _ _ _ _ _ _ _ _ _ _ _ _ _ _ _ _ _ _ _ _ _ _ _ rfl
noncomputable abbrev S.s22 : Stmt := (fun (x0 x1 x2 x3 x4 x5 x6 x7 x8 x9 x10 x11 x12 x13 x14 x15 x16 x17 x18 x19 x20 x21 x22 x23 x24 x25 x26 x27 x28 x29 x30 x31 x32 x33 x34 x35 x36 x37 x38 x39 x40 x41 x42 : Stmt) (_ : PySem.Challenge.pw_on0236_01.main.body = [x0, x1, x2, x3, x4, x5, x6, x7, x8, x9, x10, x11, x12, x13, x14, x15, x16, x17, x18, x19, x20, x21, x22, x23, x24, x25, x26, x27, x28, x29, x30, x31, x32, x33, x34, x35, x36, x37, x38, x39, x40, x41, x42]) => x22) _ _ _ _ _ _ _ _ _ _ _ _ _ _ _ _ _ _ _ _ _ _ _ _ _ _ _ _ _ _ _ _ _ _ _ _ _ _ _ _ _ _ _ rfl
noncomputable abbrev S.s23 : Stmt := (fun (x0 x1 x2 x3 x4 x5 x6 x7 x8 x9 x10 x11 x12 x13 x14 x15 x16 x17 x18 x19 x20 x21 x22 x23 x24 x25 x26 x27 x28 x29 x30 x31 x32 x33 x34 x35 x36 x37 x38 x39 x40 x41 x42 : Stmt) (_ : PySem.Challenge.pw_on0236_01.main.body = [x0, x1, x2, x3, x4, x5, x6, x7, x8, x9, x10, x11, x12, x13, x14, x15, x16, x17, x18, x19, x20, x21, x22, x23, x24, x25, x26, x27, x28, x29, x30, x31, x32, x33, x34, x35, x36, x37, x38, x39, x40, x41, x42]) => x23) _ _ _ _ _ _ _ _ _ _ _ _ _ _ _ _ _ _ _ _ _ _ _ _ _ _ _ _ _ _ _ _ _ _ _ _ _ _ _ _ _ _ _ rfl
noncomputable abbrev S.s24 : Stmt := (fun (x0 x1 x2 x3 x4 x5 x6 x7 x8 x9 x10 x11 x12 x13 x14 x15 x16 x17 x18 x19 x20 x21 x22 x23 x24 x25 x26 x27 x28 x29 x30 x31 x32 x33 x34 x35 x36 x37 x38 x39 x40 x41 x42 : Stmt) (_ : PySem.Challenge.pw_on0236_01.main.body = [x0, x1, x2, x3, x4, x5, x6, x7, x8, x9, x10, x11, x12, x13, x14, x15, x16, x17, x18, x19, x20, x21, x22, x23, x24, x25, x26, x27, x28, x29, x30, x31, x32, x33, x34, x35, x36, x37, x38, x39, x40, x41, x42]) => x24) _ _ _ _ _ _ _ _ _ _ _ _ _ _ _ _ _ _ _ _ _ _ _ _ _ _ _ _ _ _ _ _ _ _ _ _ _ _ _ _ _ _ _ rfl
noncomputable abbrev S.s25 : Stmt := (fun (x0 x1 x2 x3 x4 x5 x6 x7 x8 x9 x10 x11 x12 x13 x14 x15 x16 x17 x18 x19 x20 x21 x22 x23 x24 x25 x26 x27 x28 x29 x30 x31 x32 x33 x34 x35 x36 x37 x38 x39 x40 x41 x42 : Stmt) (_ : PySem.Challenge.pw_on0236_01.main.body = [x0, x1, x2, x3, x4, x5, x6, x7, x8, x9, x10, x11, x12, x13, x14, x15, x16, x17, x18, x19, x20, x21, x22, x23, x24, x25, x26, x27, x28, x29, x30, x31, x32, x33, x34, x35, x36, x37, x38, x39, x40, x41, x42]) => x25) _ _ _ _ _ _ _ _ _ _ _ _ _ _ _ _ _ _ _ _ _ _ _ _ _ _ _ _ _ _ _ _ _ _ _ _ _ _ _ _ _ _ _ rfl
noncomputable abbrev S.s26 : Stmt := (fun (x0 x1 x2 x3 x4 x5 x6 x7 x8 x9 x10 x11 x12 x13 x14 x15 x16 x17 x18 x19 x20 x21 x22 x23 x24 x25 x26 x27 x28 x29 x30 x31 x32 x33 x34 x35 x36 x37 x38 x39 x40 x41 x42 : Stmt) (_ : PySem.Challenge.pw_on0236_01.main.body = [x0, x1, x2, x3, x4, x5, x6, x7, x8, x9, x10, x11, x12, x13, x14, x15, x16, x17, x18, x19, x20, x21, x22, x23, x24, x25, x26, x27, x28, x29, x30, x31, x32, x33, x34, x35, x36, x37, x38, x39, x40, x41, x42]) => x26) _ _ _ _ _ _ _ _ _ _ _ _ _ _ _ _ _ _ _ _ _ _ _ _ _ _ _ _ _ _ _ _ _ _ _ _ _ _ _ _ _ _ _ rfl
noncomputable abbrev S.s27 : Stmt := (fun (x0 x1 x2 x3 x4 x5 x6 x7 x8 x9 x10 x11 x12 x13 x14 x15 x16 x17 x18 x19 x20 x21 x22 x23 x24 x25 x26 x27 x28 x29 x30 x31 x32 x33 x34 x35 x36 x37 x38 x39 x40 x41 x42 : Stmt) (_ : PySem.Challenge.pw_on0236_01.main.body = [x0, x1, x2, x3, x4, x5, x6, x7, x8, x9, x10, x11, x12, x13, x14, x15, x16, x17, x18, x19, x20, x21, x22, x23, x24, x25, x26, x27, x28, x29, x30, x31, x32, x33, x34, x35, x36, x37, x38, x39, x40, x41, x42]) => x27) _ _ _ _ _ _ _ _ _ _ _ _ _ _ _ _ _ _ _ _ _ _ _ _ _ _ _ _ _ _ _ _ _ _ _ _ _ _ _ _ _ _ _ rfl
noncomputable abbrev S.s28 : Stmt := (fun (x0 x1 x2 x3 x4 x5 x6 x7 x8 x9 x10 x11 x12 x13 x14 x15 x16 x17 x18 x19 x20 x21 x22 x23 x24 x25 x26 x27 x28 x29 x30 x31 x32 x33 x34 x35 x36 x37 x38 x39 x40 x41 x42 : Stmt) (_ : PySem.Challenge.pw_on0236_01.main.body = [x0, x1, x2, x3, x4, x5, x6, x7, x8, x9, x10, x11, x12, x13, x14, x15, x16, x17, x18, x19, x20, x21, x22, x23, x24, x25, x26, x27, x28, x29, x30, x31, x32, x33, x34, x35, x36, x37, x38, x39, x40, x41, x42]) => x28) _ _ _ _ _ _ _ _ _ _ _ _ _ _ _ _ _ _ _ _ _ _ _ _ _ _ _ _ _ _ _ _ _ _ _ _ _ _ _ _ _ _ _ rfl
noncomputable abbrev S.s29 : Stmt := (fun (x0 x1 x2 x3 x4 x5 x6 x7 x8 x9 x10 x11 x12 x13 x14 x15 x16 x17 x18 x19 x20 x21 x22 x23 x24 x25 x26 x27 x28 x29 x30 x31 x32 x33 x34 x35 x36 x37 x38 x39 x40 x41 x42 : Stmt) (_ : PySem.Challenge.pw_on0236_01.main.body = [x0, x1, x2, x3, x4, x5, x6, x7, x8, x9, x10, x11, x12, x13, x14, x15, x16, x17, x18, x19, x20, x21, x22, x23, x24, x25, x26, x27, x28, x29, x30, x31, x32, x33, x34, x35, x36, x37, x38, x39, x40, x41, x42]) => x29) _ _ _ _ _ _ _ _ _ _ _ _ _ _ _ _ _ _ _ _ _ _ _ _ _ _ _ _ _ _ _ _ _ _ _ _ _ _ _ _ _ _ _ rfl
noncomputable abbrev S.s30 : Stmt := (fun (x0 x1 x2 x3 x4 x5 x6 x7 x8 x9 x10 x11 x12 x13 x14 x15 x16 x17 x18 x19 x20 x21 x22 x23 x24 x25 x26 x27 x28 x29 x30 x31 x32 x33 x34 x35 x36 x37 x38 x39 x40 x41 x42 : Stmt) (_ : PySem.Challenge.pw_on0236_01.main.body = [x0, x1, x2, x3, x4, x5, x6, x7, x8, x9, x10, x11, x12, x13, x14, x15, x16, x17, x18, x19, x20, x21, x22, x23, x24, x25, x26, x27, x28, x29, x30, x31, x32, x33, x34, x35, x36, x37, x38, x39, x40, x41, x42]) => x30) _ _ _ _ _ _ _ _ _ _ _ _ _ _ _ _ _ _ _ _ _ _ _ _ _ _ _ _ _ _ _ _ _ _ _ _ _ _ _ _ _ _ _ rfl
noncomputable abbrev S.s31 : Stmt := (fun (x0 x1 x2 x3 x4 x5 x6 x7 x8 x9 x10 x11 x12 x13 x14 x15 x16 x17 x18 x19 x20 x21 x22 x23 x24 x25 x26 x27 x28 x29 x30 x31 x32 x33 x34 x35 x36 x37 x38 x39 x40 x41 x42 : Stmt) (_ : PySem.Challenge.pw_on0236_01.main.body = [x0, x1, x2, x3, x4, x5, x6, x7, x8, x9, x10, x11, x12, x13, x14, x15, x16, x17, x18, x19, x20, x21, x22, x23, x24, x25, x26, x27, x28, x29, x30, x31, x32, x33, x34, x35, x36, x37, x38, x39, x40, x41, x42]) => x31) _ _ _ _ _ _ _ _ _ _ _ _ _ _ _ _ _ _ _ _ _ _ _ _ _ _ _ _ _ _ _ _ _ _ _ _ _ _ _ _ _ _ _ rfl
noncomputable abbrev S.s32 : Stmt := (fun (x0 x1 x2 x3 x4 x5 x6 x7 x8 x9 x10 x11 x12 x13 x14 x15 x16 x17 x18 x19 x20 x21 x22 x23 x24 x25 x26 x27 x28 x29 x30 x31 x32 x33 x34 x35 x36 x37 x38 x39 x40 x41 x42 : Stmt) (_ : PySem.Challenge.pw_on0236_01.main.body = [x0, x1, x2, x3, x4, x5, x6, x7, x8, x9, x10, x11, x12, x13, x14, x15, x16, x17, x18, x19, x20, x21, x22, x23, x24, x25, x26, x27, x28, x29, x30, x31, x32, x33, x34, x35, x36, x37, x38, x39, x40, x41, x42]) => x32) _ _ _ _ _ _ _ _ _ _ _ _ _ _ _ _ _ _ _ _ _ _ _ _ _ _ _ _ _ _ _ _ _ _ _ _ _ _ _ _ _ _ _ rfl
noncomputable abbrev S.s33 : Stmt := (fun (x0 x1 x2 x3 x4 x5 x6 x7 x8 x9 x10 x11 x12 x13 x14 x15 x16 x17 x18 x19 x20 x21 x22 x23 x24 x25 x26 x27 x28 x29 x30 x31 x32 x33 x34 x35 x36 x37 x38 x39 x40 x41 x42 : Stmt) (_ : PySem.Challenge.pw_on0236_01.main.body = [x0, x1, x2, x3, x4, x5, x6, x7, x8, x9, x10, x11, x12, x13, x14, x15, x16, x17, x18, x19, x20, x21, x22, x23, x24, x25, x26, x27, x28, x29, x30, x31, x32, x33, x34, x35, x36, x37, x38, x39, x40, x41, x42]) => x33) _ _ _ _ _ _ _ _ _ _ _ _ _ _ _ _ _ _ _ _ _ _ _ _ _ _ _ _ _ _ _ _ _ _ _ _ _ _ _ _ _ _ _ rfl
noncomputable abbrev S.s34 : Stmt := (fun (x0 x1 x2 x3 x4 x5 x6 x7 x8 x9 x10 x11 x12 x13 x14 x15 x16 x17 x18 x19 x20 x21 x22 x23 x24 x25 x26 x27 x28 x29 x30 x31 x32 x33 x34 x35 x36 x37 x38 x39 x40 x41 x42 : Stmt) (_ : PySem.Challenge.pw_on0236_01.main.body = [x0, x1, x2, x3, x4, x5, x6, x7, x8, x9, x10, x11, x12, x13, x14, x15, x16, x17, x18, x19, x20, x21, x22, x23, x24, x25, x26, x27, x28, x29, x30, x31, x32, x33, x34, x35, x36, x37, x38, x39, x40, x41, x42]) => x34) _ _ _ _ _ _ _ _ _ _ _ _ _ _ _ _ _ _ _ _ _ _ _ _ _ _ _ _ _ _ _ _ _ _ _ _ _ _ _ _ _ _ _ rfl
noncomputable abbrev S.s35 : Stmt := (fun (x0 x1 x2 x3 x4 x5 x6 x7 x8 x9 x10 x11 x12 x13 x14 x15 x16 x17 x18 x19 x20 x21 x22 x23 x24 x25 x26 x27 x28 x29 x30 x31 x32 x33 x34 x35 x36 x37 x38 x39 x40 x41 x42 : Stmt) (_ : PySem.Challenge.pw_on0236_01.main.body = [x0, x1, x2, x3, x4, x5, x6, x7, x8, x9, x10, x11, x12, x13, x14, x15, x16, x17, x18, x19, x20, x21, x22, x23, x24, x25, x26, x27, x28, x29, x30, x31, x32, x33, x34, x35, x36, x37, x38, x39, x40, x41, x42]) => x35) _ _ _ _ _ _ _ _ _ _ _ _ _ _ _ _ _ _ _ _ _ _ _ _ _ _ _ _ _ _ _ _ _ _ _ _ _ _ _ _ _ _ _ rfl
noncomputable abbrev S.s36 : Stmt := (fun (x0 x1 x2 x3 x4 x5 x6 x7 x8 x9 x10 x11 x12 x13 x14 x15 x16 x17 x18 x19 x20 x21 x22 x23 x24 x25 x26 x27 x28 x29 x30 x31 x32 x33 x34 x35 x36 x37 x38 x39 x40 x41 x42 : Stmt) (_ : PySem.Challenge.pw_on0236_01.main.body = [x0, x1, x2, x3, x4, x5, x6, x7, x8, x9, x10, x11, x12, x13, x14, x15, x16, x17, x18, x19, x20, x21, x22, x23, x24, x25, x26, x27, x28, x29, x30, x31, x32, x33, x34, x35, x36, x37, x38, x39, x40, x41, x42]) => x36) _ _ _ _ _ _ _ _ _ _ _ _ _ _ _ _ _ _ _ _ _ _ _ _ _ _ _ _ _ _ _ _ _ _ _ _ _ _ _ _ _ _ _ rfl
noncomputable abbrev S.s37 : Stmt := (fun (x0 x1 x2 x3 x4 x5 x6 x7 x8 x9 x10 x11 x12 x13 x14 x15 x16 x17 x18 x19 x20 x21 x22 x23 x24 x25 x26 x27 x28 x29 x30 x31 x32 x33 x34 x35 x36 x37 x38 x39 x40 x41 x42 : Stmt) (_ : PySem.Challenge.pw_on0236_01.main.body = [x0, x1, x2, x3, x4, x5, x6, x7, x8, x9, x10, x11, x12, x13, x14, x15, x16, x17, x18, x19, x20, x21, x22, x23, x24, x25, x26, x27, x28, x29, x30, x31, x32, x33, x34, x35, x36, x37, x38, x39, x40, x41, x42]) => x37) _ _ _ _ _ _ _ _ _ _ _ _ _ _ _ _ _ _ _ _ _ _ _ _ _ _ _ _ _ _ _ _ _ _ _ _ _ _ _ _ _ _ _ rfl
noncomputable abbrev S.s38 : Stmt := (fun (x0 x1 x2 x3 x4 x5 x6 x7 x8 x9 x10 x11 x12 x13 x14 x15 x16 x17 x18 x19 x20 x21 x22 x23 x24 x25 x26 x27 x28 x29 x30 x31 x32 x33 x34 x35 x36 x37 x38 x39 x40 x41 x42 : Stmt) (_ : PySem.Challenge.pw_on0236_01.main.body = [x0, x1, x2, x3, x4, x5, x6, x7, x8, x9, x10, x11, x12, x13, x14, x15, x16, x17, x18, x19, x20, x21, x22, x23, x24, x25, x26, x27, x28, x29, x30, x31, x32, x33, x34, x35, x36, x37, x38, x39, x40, x41, x42]) => x38) _ _ _ _ _ _ _ _ _ _ _ _ _ _ _ _ _ _ _ _ _ _ _ _ _ _ _ _ _ _ _ _ _ _ _ _ _ _ _ _ _ _ _ rfl
noncomputable abbrev S.s39 : Stmt := (fun (x0 x1 x2 x3 x4 x5 x6 x7 x8 x9 x10 x11 x12 x13 x14 x15 x16 x17 x18 x19 x20 x21 x22 x23 x24 x25 x26 x27 x28 x29 x30 x31 x32 x33 x34 x35 x36 x37 x38 x39 x40 x41 x42 : Stmt) (_ : PySem.Challenge.pw_on0236_01.main.body = [x0, x1, x2, x3, x4, x5, x6, x7, x8, x9, x10, x11, x12, x13, x14, x15, x16, x17, x18, x19, x20, x21, x22, x23, x24, x25, x26, x27, x28, x29, x30, x31, x32, x33, x34, x35, x36, x37, x38, x39, x40, x41, x42]) => x39) _ _ _ _ _ _ _ _ _ _ _ _ _ _ _ _ _ _ _ _ _ _ _ _ _ _ _ _ _ _ _ _ _ _ _ _ _ _ _ _ _ _ _ rfl
noncomputable abbrev S.s40 : Stmt := (fun (x0 x1 x2 x3 x4 x5 x6 x7 x8 x9 x10 x11 x12 x13 x14 x15 x16 x17 x18 x19 x20 x21 x22 x23 x24 x25 x26 x27 x28 x29 x30 x31 x32 x33 x34 x35 x36 x37 x38 x39 x40 x41 x42 : Stmt) (_ : PySem.Challenge.pw_on0236_01.main.body = [x0, x1, x2, x3, x4, x5, x6, x7, x8, x9, x10, x11, x12, x13, x14, x15, x16, x17, x18, x19, x20, x21, x22, x23, x24, x25, x26, x27, x28, x29, x30, x31, x32, x33, x34, x35, x36, x37, x38, x39, x40, x41, x42]) => x40) _ _ _ _ _ _ _ _ _ _ _ _ _ _ _ _ _ _ _ _ _ _ _ _ _ _ _ _ _ _ _ _ _ _ _ _ _ _ _ _ _ _ _ rfl
noncomputable abbrev S.s41 : Stmt := (fun (x0 x1 x2 x3 x4 x5 x6 x7 x8 x9 x10 x11 x12 x13 x14 x15 x16 x17 x18 x19 x20 x21 x22 x23 x24 x25 x26 x27 x28 x29 x30 x31 x32 x33 x34 x35 x36 x37 x38 x39 x40 x41 x42 : Stmt) (_ : PySem.Challenge.pw_on0236_01.main.body = [x0, x1, x2, x3, x4, x5, x6, x7, x8, x9, x10, x11, x12, x13, x14, x15, x16, x17, x18, x19, x20, x21, x22, x23, x24, x25, x26, x27, x28, x29, x30, x31, x32, x33, x34, x35, x36, x37, x38, x39, x40, x41, x42]) => x41) _ _ _ _ _ _ _ _ _ _ _ _ _ _ _ _ _ _ _ _ _ _ _ _ _ _ _ _ _ _ _ _ _ _ _ _ _ _ _ _ _ _ _ rfl
noncomputable abbrev S.s42 : Stmt := (fun (x0 x1 x2 x3 x4 x5 x6 x7 x8 x9 x10 x11 x12 x13 x14 x15 x16 x17 x18 x19 x20 x21 x22 x23 x24 x25 x26 x27 x28 x29 x30 x31 x32 x33 x34 x35 x36 x37 x38 x39 x40 x41 x42 : Stmt) (_ : PySem.Challenge.pw_on0236_01.main.body = [x0, x1, x2, x3, x4, x5, x6, x7, x8, x9, x10, x11, x12, x13, x14, x15, x16, x17, x18, x19, x20, x21, x22, x23, x24, x25, x26, x27, x28, x29, x30, x31, x32, x33, x34, x35, x36, x37, x38, x39, x40, x41, x42]) => x42) _ _ _ _ _ _ _ _ _ _ _ _ _ _ _ _ _ _ _ _ _ _ _ _ _ _ _ _ _ _ _ _ _ _ _ _ _ _ _ _ _ _ _ rfl
noncomputable abbrev S.a4 : Arguments := (fun (n : Str) (a : Arguments) (b : List Stmt) (d : List Expr) (r : Option Expr) (t : List TypeParam) (c : Scope) (u : Option Scope) (m : Str) (p : Pos) (_ : S.s4 = Stmt.FunctionDef n a b d r t c u m p) => a) _ _ _ _ _ _ _ _ _ _ rfl
noncomputable abbrev S.b4 : List Stmt := (fun (n : Str) (a : Arguments) (b : List Stmt) (d : List Expr) (r : Option Expr) (t : List TypeParam) (c : Scope) (u : Option Scope) (m : Str) (p : Pos) (_ : S.s4 = Stmt.FunctionDef n a b d r t c u m p) => b) _ _ _ _ _ _ _ _ _ _ rfl
noncomputable abbrev S.c4 : Scope := (fun (n : Str) (a : Arguments) (b : List Stmt) (d : List Expr) (r : Option Expr) (t : List TypeParam) (c : Scope) (u : Option Scope) (m : Str) (p : Pos) (_ : S.s4 = Stmt.FunctionDef n a b d r t c u m p) => c) _ _ _ _ _ _ _ _ _ _ rfl
noncomputable abbrev S.a5 : Arguments := (fun (n : Str) (a : Arguments) (b : List Stmt) (d : List Expr) (r : Option Expr) (t : List TypeParam) (c : Scope) (u : Option Scope) (m : Str) (p : Pos) (_ : S.s5 = Stmt.FunctionDef n a b d r t c u m p) => a) _ _ _ _ _ _ _ _ _ _ rfl
noncomputable abbrev S.b5 : List Stmt := (fun (n : Str) (a : Arguments) (b : List Stmt) (d : List Expr) (r : Option Expr) (t : List TypeParam) (c : Scope) (u : Option Scope) (m : Str) (p : Pos) (_ : S.s5 = Stmt.FunctionDef n a b d r t c u m p) => b) _ _ _ _ _ _ _ _ _ _ rfl
noncomputable abbrev S.c5 : Scope := (fun (n : Str) (a : Arguments) (b : List Stmt) (d : List Expr) (r : Option Expr) (t : List TypeParam) (c : Scope) (u : Option Scope) (m : Str) (p : Pos) (_ : S.s5 = Stmt.FunctionDef n a b d r t c u m p) => c) _ _ _ _ _ _ _ _ _ _ rfl
noncomputable abbrev S.a6 : Arguments := (fun (n : Str) (a : Arguments) (b : List Stmt) (d : List Expr) (r : Option Expr) (t : List TypeParam) (c : Scope) (u : Option Scope) (m : Str) (p : Pos) (_ : S.s6 = Stmt.FunctionDef n a b d r t c u m p) => a) _ _ _ _ _ _ _ _ _ _ rfl
noncomputable abbrev S.b6 : List Stmt := (fun (n : Str) (a : Arguments) (b : List Stmt) (d : List Expr) (r : Option Expr) (t : List TypeParam) (c : Scope) (u : Option Scope) (m : Str) (p : Pos) (_ : S.s6 = Stmt.FunctionDef n a b d r t c u m p) => b) _ _ _ _ _ _ _ _ _ _ rfl
noncomputable abbrev S.c6 : Scope := (fun (n : Str) (a : Arguments) (b : List Stmt) (d : List Expr) (r : Option Expr) (t : List TypeParam) (c : Scope) (u : Option Scope) (m : Str) (p : Pos) (_ : S.s6 = Stmt.FunctionDef n a b d r t c u m p) => c) _ _ _ _ _ _ _ _ _ _ rfl
noncomputable abbrev S.a7 : Arguments := (fun (n : Str) (a : Arguments) (b : List Stmt) (d : List Expr) (r : Option Expr) (t : List TypeParam) (c : Scope) (u : Option Scope) (m : Str) (p : Pos) (_ : S.s7 = Stmt.FunctionDef n a b d r t c u m p) => a) _ _ _ _ _ _ _ _ _ _ rfl
noncomputable abbrev S.b7 : List Stmt := (fun (n : Str) (a : Arguments) (b : List Stmt) (d : List Expr) (r : Option Expr) (t : List TypeParam) (c : Scope) (u : Option Scope) (m : Str) (p : Pos) (_ : S.s7 = Stmt.FunctionDef n a b d r t c u m p) => b) _ _ _ _ _ _ _ _ _ _ rfl
noncomputable abbrev S.c7 : Scope := (fun (n : Str) (a : Arguments) (b : List Stmt) (d : List Expr) (r : Option Expr) (t : List TypeParam) (c : Scope) (u : Option Scope) (m : Str) (p : Pos) (_ : S.s7 = Stmt.FunctionDef n a b d r t c u m p) => c) _ _ _ _ _ _ _ _ _ _ rfl
noncomputable abbrev S.a8 : Arguments := (fun (n : Str) (a : Arguments) (b : List Stmt) (d : List Expr) (r : Option Expr) (t : List TypeParam) (c : Scope) (u : Option Scope) (m : Str) (p : Pos) (_ : S.s8 = Stmt.FunctionDef n a b d r t c u m p) => a) _ _ _ _ _ _ _ _ _ _ rfl
noncomputable abbrev S.b8 : List Stmt := (fun (n : Str) (a : Arguments) (b : List Stmt) (d : List Expr) (r : Option Expr) (t : List TypeParam) (c : Scope) (u : Option Scope) (m : Str) (p : Pos) (_ : S.s8 = Stmt.FunctionDef n a b d r t c u m p) => b) _ _ _ _ _ _ _ _ _ _ rfl
noncomputable abbrev S.c8 : Scope := (fun (n : Str) (a : Arguments) (b : List Stmt) (d : List Expr) (r : Option Expr) (t : List TypeParam) (c : Scope) (u : Option Scope) (m : Str) (p : Pos) (_ : S.s8 = Stmt.FunctionDef n a b d r t c u m p) => c) _ _ _ _ _ _ _ _ _ _ rfl
noncomputable abbrev S.a9 : Arguments := (fun (n : Str) (a : Arguments) (b : List Stmt) (d : List Expr) (r : Option Expr) (t : List TypeParam) (c : Scope) (u : Option Scope) (m : Str) (p : Pos) (_ : S.s9 = Stmt.FunctionDef n a b d r t c u m p) => a) _ _ _ _ _ _ _ _ _ _ rfl
noncomputable abbrev S.b9 : List Stmt := (fun (n : Str) (a : Arguments) (b : List Stmt) (d : List Expr) (r : Option Expr) (t : List TypeParam) (c : Scope) (u : Option Scope) (m : Str) (p : Pos) (_ : S.s9 = Stmt.FunctionDef n a b d r t c u m p) => b) _ _ _ _ _ _ _ _ _ _ rfl
noncomputable abbrev S.c9 : Scope := (fun (n : Str) (a : Arguments) (b : List Stmt) (d : List Expr) (r : Option Expr) (t : List TypeParam) (c : Scope) (u : Option Scope) (m : Str) (p : Pos) (_ : S.s9 = Stmt.FunctionDef n a b d r t c u m p) => c) _ _ _ _ _ _ _ _ _ _ rfl
noncomputable abbrev S.a10 : Arguments := (fun (n : Str) (a : Arguments) (b : List Stmt) (d : List Expr) (r : Option Expr) (t : List TypeParam) (c : Scope) (u : Option Scope) (m : Str) (p : Pos) (_ : S.s10 = Stmt.FunctionDef n a b d r t c u m p) => a) _ _ _ _ _ _ _ _ _ _ rfl
noncomputable abbrev S.b10 : List Stmt := (fun (n : Str) (a : Arguments) (b : List Stmt) (d : List Expr) (r : Option Expr) (t : List TypeParam) (c : Scope) (u : Option Scope) (m : Str) (p : Pos) (_ : S.s10 = Stmt.FunctionDef n a b d r t c u m p) => b) _ _ _ _ _ _ _ _ _ _ rfl
noncomputable abbrev S.c10 : Scope := (fun (n : Str) (a : Arguments) (b : List Stmt) (d : List Expr) (r : Option Expr) (t : List TypeParam) (c : Scope) (u : Option Scope) (m : Str) (p : Pos) (_ : S.s10 = Stmt.FunctionDef n a b d r t c u m p) => c) _ _ _ _ _ _ _ _ _ _ rfl
noncomputable abbrev S.a11 : Arguments := (fun (n : Str) (a : Arguments) (b : List Stmt) (d : List Expr) (r : Option Expr) (t : List TypeParam) (c : Scope) (u : Option Scope) (m : Str) (p : Pos) (_ : S.s11 = Stmt.FunctionDef n a b d r t c u m p) => a) _ _ _ _ _ _ _ _ _ _ rfl
noncomputable abbrev S.b11 : List Stmt := (fun (n : Str) (a : Arguments) (b : List Stmt) (d : List Expr) (r : Option Expr) (t : List TypeParam) (c : Scope) (u : Option Scope) (m : Str) (p : Pos) (_ : S.s11 = Stmt.FunctionDef n a b d r t c u m p) => b) _ _ _ _ _ _ _ _ _ _ rfl
noncomputable abbrev S.c11 : Scope := (fun (n : Str) (a : Arguments) (b : List Stmt) (d : List Expr) (r : Option Expr) (t : List TypeParam) (c : Scope) (u : Option Scope) (m : Str) (p : Pos) (_ : S.s11 = Stmt.FunctionDef n a b d r t c u m p) => c) _ _ _ _ _ _ _ _ _ _ rfl
noncomputable abbrev S.a12 : Arguments := (fun (n : Str) (a : Arguments) (b : List Stmt) (d : List Expr) (r : Option Expr) (t : List TypeParam) (c : Scope) (u : Option Scope) (m : Str) (p : Pos) (_ : S.s12 = Stmt.FunctionDef n a b d r t c u m p) => a) _ _ _ _ _ _ _ _ _ _ rfl
noncomputable abbrev S.b12 : List Stmt := (fun (n : Str) (a : Arguments) (b : List Stmt) (d : List Expr) (r : Option Expr) (t : List TypeParam) (c : Scope) (u : Option Scope) (m : Str) (p : Pos) (_ : S.s12 = Stmt.FunctionDef n a b d r t c u m p) => b) _ _ _ _ _ _ _ _ _ _ rfl
noncomputable abbrev S.c12 : Scope := (fun (n : Str) (a : Arguments) (b : List Stmt) (d : List Expr) (r : Option Expr) (t : List TypeParam) (c : Scope) (u : Option Scope) (m : Str) (p : Pos) (_ : S.s12 = Stmt.FunctionDef n a b d r t c u m p) => c) _ _ _ _ _ _ _ _ _ _ rfl
noncomputable abbrev S.a14 : Arguments := (fun (n : Str) (a : Arguments) (b : List Stmt) (d : List Expr) (r : Option Expr) (t : List TypeParam) (c : Scope) (u : Option Scope) (m : Str) (p : Pos) (_ : S.s14 = Stmt.FunctionDef n a b d r t c u m p) => a) _ _ _ _ _ _ _ _ _ _ rfl
noncomputable abbrev S.b14 : List Stmt := (fun (n : Str) (a : Arguments) (b : List Stmt) (d : List Expr) (r : Option Expr) (t : List TypeParam) (c : Scope) (u : Option Scope) (m : Str) (p : Pos) (_ : S.s14 = Stmt.FunctionDef n a b d r t c u m p) => b) _ _ _ _ _ _ _ _ _ _ rfl
noncomputable abbrev S.c14 : Scope := (fun (n : Str) (a : Arguments) (b : List Stmt) (d : List Expr) (r : Option Expr) (t : List TypeParam) (c : Scope) (u : Option Scope) (m : Str) (p : Pos) (_ : S.s14 = Stmt.FunctionDef n a b d r t c u m p) => c) _ _ _ _ _ _ _ _ _ _ rfl
noncomputable abbrev S.a15 : Arguments := (fun (n : Str) (a : Arguments) (b : List Stmt) (d : List Expr) (r : Option Expr) (t : List TypeParam) (c : Scope) (u : Option Scope) (m : Str) (p : Pos) (_ : S.s15 = Stmt.FunctionDef n a b d r t c u m p) => a) _ _ _ _ _ _ _ _ _ _ rfl
noncomputable abbrev S.b15 : List Stmt := (fun (n : Str) (a : Arguments) (b : List Stmt) (d : List Expr) (r : Option Expr) (t : List TypeParam) (c : Scope) (u : Option Scope) (m : Str) (p : Pos) (_ : S.s15 = Stmt.FunctionDef n a b d r t c u m p) => b) _ _ _ _ _ _ _ _ _ _ rfl
noncomputable abbrev S.c15 : Scope := (fun (n : Str) (a : Arguments) (b : List Stmt) (d : List Expr) (r : Option Expr) (t : List TypeParam) (c : Scope) (u : Option Scope) (m : Str) (p : Pos) (_ : S.s15 = Stmt.FunctionDef n a b d r t c u m p) => c) _ _ _ _ _ _ _ _ _ _ rfl
noncomputable abbrev S.a16 : Arguments := (fun (n : Str) (a : Arguments) (b : List Stmt) (d : List Expr) (r : Option Expr) (t : List TypeParam) (c : Scope) (u : Option Scope) (m : Str) (p : Pos) (_ : S.s16 = Stmt.FunctionDef n a b d r t c u m p) => a) _ _ _ _ _ _ _ _ _ _ rfl
noncomputable abbrev S.b16 : List Stmt := (fun (n : Str) (a : Arguments) (b : List Stmt) (d : List Expr) (r : Option Expr) (t : List TypeParam) (c : Scope) (u : Option Scope) (m : Str) (p : Pos) (_ : S.s16 = Stmt.FunctionDef n a b d r t c u m p) => b) _ _ _ _ _ _ _ _ _ _ rfl
noncomputable abbrev S.c16 : Scope := (fun (n : Str) (a : Arguments) (b : List Stmt) (d : List Expr) (r : Option Expr) (t : List TypeParam) (c : Scope) (u : Option Scope) (m : Str) (p : Pos) (_ : S.s16 = Stmt.FunctionDef n a b d r t c u m p) => c) _ _ _ _ _ _ _ _ _ _ rfl
noncomputable abbrev S.a19 : Arguments := (fun (n : Str) (a : Arguments) (b : List Stmt) (d : List Expr) (r : Option Expr) (t : List TypeParam) (c : Scope) (u : Option Scope) (m : Str) (p : Pos) (_ : S.s19 = Stmt.FunctionDef n a b d r t c u m p) => a) _ _ _ _ _ _ _ _ _ _ rfl
noncomputable abbrev S.b19 : List Stmt := (fun (n : Str) (a : Arguments) (b : List Stmt) (d : List Expr) (r : Option Expr) (t : List TypeParam) (c : Scope) (u : Option Scope) (m : Str) (p : Pos) (_ : S.s19 = Stmt.FunctionDef n a b d r t c u m p) => b) _ _ _ _ _ _ _ _ _ _ rfl
noncomputable abbrev S.c19 : Scope := (fun (n : Str) (a : Arguments) (b : List Stmt) (d : List Expr) (r : Option Expr) (t : List TypeParam) (c : Scope) (u : Option Scope) (m : Str) (p : Pos) (_ : S.s19 = Stmt.FunctionDef n a b d r t c u m p) => c) _ _ _ _ _ _ _ _ _ _ rfl
noncomputable abbrev S.a20 : Arguments := (fun (n : Str) (a : Arguments) (b : List Stmt) (d : List Expr) (r : Option Expr) (t : List TypeParam) (c : Scope) (u : Option Scope) (m : Str) (p : Pos) (_ : S.s20 = Stmt.FunctionDef n a b d r t c u m p) => a) _ _ _ _ _ _ _ _ _ _ rfl
noncomputable abbrev S.b20 : List Stmt := (fun (n : Str) (a : Arguments) (b : List Stmt) (d : List Expr) (r : Option Expr) (t : List TypeParam) (c : Scope) (u : Option Scope) (m : Str) (p : Pos) (_ : S.s20 = Stmt.FunctionDef n a b d r t c u m p) => b) _ _ _ _ _ _ _ _ _ _ rfl
noncomputable abbrev S.c20 : Scope := (fun (n : Str) (a : Arguments) (b : List Stmt) (d : List Expr) (r : Option Expr) (t : List TypeParam) (c : Scope) (u : Option Scope) (m : Str) (p : Pos) (_ : S.s20 = Stmt.FunctionDef n a b d r t c u m p) => c) _ _ _ _ _ _ _ _ _ _ rfl
noncomputable abbrev S.a21 : Arguments := (fun (n : Str) (a : Arguments) (b : List Stmt) (d : List Expr) (r : Option Expr) (t : List TypeParam) (c : Scope) (u : Option Scope) (m : Str) (p : Pos) (_ : S.s21 = Stmt.FunctionDef n a b d r t c u m p) => a) _ _ _ _ _ _ _ _ _ _ rfl
noncomputable abbrev S.b21 : List Stmt := (fun (n : Str) (a : Arguments) (b : List Stmt) (d : List Expr) (r : Option Expr) (t : List TypeParam) (c : Scope) (u : Option Scope) (m : Str) (p : Pos) (_ : S.s21 = Stmt.FunctionDef n a b d r t c u m p) => b) _ _ _ _ _ _ _ _ _ _ rfl
noncomputable abbrev S.c21 : Scope := (fun (n : Str) (a : Arguments) (b : List Stmt) (d : List Expr) (r : Option Expr) (t : List TypeParam) (c : Scope) (u : Option Scope) (m : Str) (p : Pos) (_ : S.s21 = Stmt.FunctionDef n a b d r t c u m p) => c) _ _ _ _ _ _ _ _ _ _ rfl
noncomputable abbrev S.a22 : Arguments := (fun (n : Str) (a : Arguments) (b : List Stmt) (d : List Expr) (r : Option Expr) (t : List TypeParam) (c : Scope) (u : Option Scope) (m : Str) (p : Pos) (_ : S.s22 = Stmt.FunctionDef n a b d r t c u m p) => a) _ _ _ _ _ _ _ _ _ _ rfl
noncomputable abbrev S.b22 : List Stmt := (fun (n : Str) (a : Arguments) (b : List Stmt) (d : List Expr) (r : Option Expr) (t : List TypeParam) (c : Scope) (u : Option Scope) (m : Str) (p : Pos) (_ : S.s22 = Stmt.FunctionDef n a b d r t c u m p) => b) _ _ _ _ _ _ _ _ _ _ rfl
noncomputable abbrev S.c22 : Scope := (fun (n : Str) (a : Arguments) (b : List Stmt) (d : List Expr) (r : Option Expr) (t : List TypeParam) (c : Scope) (u : Option Scope) (m : Str) (p : Pos) (_ : S.s22 = Stmt.FunctionDef n a b d r t c u m p) => c) _ _ _ _ _ _ _ _ _ _ rfl
noncomputable abbrev S.a23 : Arguments := (fun (n : Str) (a : Arguments) (b : List Stmt) (d : List Expr) (r : Option Expr) (t : List TypeParam) (c : Scope) (u : Option Scope) (m : Str) (p : Pos) (_ : S.s23 = Stmt.FunctionDef n a b d r t c u m p) => a) _ _ _ _ _ _ _ _ _ _ rfl
noncomputable abbrev S.b23 : List Stmt := (fun (n : Str) (a : Arguments) (b : List Stmt) (d : List Expr) (r : Option Expr) (t : List TypeParam) (c : Scope) (u : Option Scope) (m : Str) (p : Pos) (_ : S.s23 = Stmt.FunctionDef n a b d r t c u m p) => b) _ _ _ _ _ _ _ _ _ _ rfl
noncomputable abbrev S.c23 : Scope := (fun (n : Str) (a : Arguments) (b : List Stmt) (d : List Expr) (r : Option Expr) (t : List TypeParam) (c : Scope) (u : Option Scope) (m : Str) (p : Pos) (_ : S.s23 = Stmt.FunctionDef n a b d r t c u m p) => c) _ _ _ _ _ _ _ _ _ _ rfl
noncomputable abbrev S.a24 : Arguments := (fun (n : Str) (a : Arguments) (b : List Stmt) (d : List Expr) (r : Option Expr) (t : List TypeParam) (c : Scope) (u : Option Scope) (m : Str) (p : Pos) (_ : S.s24 = Stmt.FunctionDef n a b d r t c u m p) => a) _ _ _ _ _ _ _ _ _ _ rfl
noncomputable abbrev S.b24 : List Stmt := (fun (n : Str) (a : Arguments) (b : List Stmt) (d : List Expr) (r : Option Expr) (t : List TypeParam) (c : Scope) (u : Option Scope) (m : Str) (p : Pos) (_ : S.s24 = Stmt.FunctionDef n a b d r t c u m p) => b) _ _ _ _ _ _ _ _ _ _ rfl
noncomputable abbrev S.c24 : Scope := (fun (n : Str) (a : Arguments) (b : List Stmt) (d : List Expr) (r : Option Expr) (t : List TypeParam) (c : Scope) (u : Option Scope) (m : Str) (p : Pos) (_ : S.s24 = Stmt.FunctionDef n a b d r t c u m p) => c) _ _ _ _ _ _ _ _ _ _ rfl
noncomputable abbrev S.a25 : Arguments := (fun (n : Str) (a : Arguments) (b : List Stmt) (d : List Expr) (r : Option Expr) (t : List TypeParam) (c : Scope) (u : Option Scope) (m : Str) (p : Pos) (_ : S.s25 = Stmt.FunctionDef n a b d r t c u m p) => a) _ _ _ _ _ _ _ _ _ _ rfl
noncomputable abbrev S.b25 : List Stmt := (fun (n : Str) (a : Arguments) (b : List Stmt) (d : List Expr) (r : Option Expr) (t : List TypeParam) (c : Scope) (u : Option Scope) (m : Str) (p : Pos) (_ : S.s25 = Stmt.FunctionDef n a b d r t c u m p) => b) _ _ _ _ _ _ _ _ _ _ rfl
noncomputable abbrev S.c25 : Scope := (fun (n : Str) (a : Arguments) (b : List Stmt) (d : List Expr) (r : Option Expr) (t : List TypeParam) (c : Scope) (u : Option Scope) (m : Str) (p : Pos) (_ : S.s25 = Stmt.FunctionDef n a b d r t c u m p) => c) _ _ _ _ _ _ _ _ _ _ rfl
noncomputable abbrev S.a26 : Arguments := (fun (n : Str) (a : Arguments) (b : List Stmt) (d : List Expr) (r : Option Expr) (t : List TypeParam) (c : Scope) (u : Option Scope) (m : Str) (p : Pos) (_ : S.s26 = Stmt.FunctionDef n a b d r t c u m p) => a) _ _ _ _ _ _ _ _ _ _ rfl
noncomputable abbrev S.b26 : List Stmt := (fun (n : Str) (a : Arguments) (b : List Stmt) (d : List Expr) (r : Option Expr) (t : List TypeParam) (c : Scope) (u : Option Scope) (m : Str) (p : Pos) (_ : S.s26 = Stmt.FunctionDef n a b d r t c u m p) => b) _ _ _ _ _ _ _ _ _ _ rfl
noncomputable abbrev S.c26 : Scope := (fun (n : Str) (a : Arguments) (b : List Stmt) (d : List Expr) (r : Option Expr) (t : List TypeParam) (c : Scope) (u : Option Scope) (m : Str) (p : Pos) (_ : S.s26 = Stmt.FunctionDef n a b d r t c u m p) => c) _ _ _ _ _ _ _ _ _ _ rfl
noncomputable abbrev S.a28 : Arguments := (fun (n : Str) (a : Arguments) (b : List Stmt) (d : List Expr) (r : Option Expr) (t : List TypeParam) (c : Scope) (u : Option Scope) (m : Str) (p : Pos) (_ : S.s28 = Stmt.FunctionDef n a b d r t c u m p) => a) _ _ _ _ _ _ _ _ _ _ rfl
noncomputable abbrev S.b28 : List Stmt := (fun (n : Str) (a : Arguments) (b : List Stmt) (d : List Expr) (r : Option Expr) (t : List TypeParam) (c : Scope) (u : Option Scope) (m : Str) (p : Pos) (_ : S.s28 = Stmt.FunctionDef n a b d r t c u m p) => b) _ _ _ _ _ _ _ _ _ _ rfl
noncomputable abbrev S.c28 : Scope := (fun (n : Str) (a : Arguments) (b : List Stmt) (d : List Expr) (r : Option Expr) (t : List TypeParam) (c : Scope) (u : Option Scope) (m : Str) (p : Pos) (_ : S.s28 = Stmt.FunctionDef n a b d r t c u m p) => c) _ _ _ _ _ _ _ _ _ _ rfl
noncomputable abbrev S.a29 : Arguments := (fun (n : Str) (a : Arguments) (b : List Stmt) (d : List Expr) (r : Option Expr) (t : List TypeParam) (c : Scope) (u : Option Scope) (m : Str) (p : Pos) (_ : S.s29 = Stmt.FunctionDef n a b d r t c u m p) => a) _ _ _ _ _ _ _ _ _ _ rfl
noncomputable abbrev S.b29 : List Stmt := (fun (n : Str) (a : Arguments) (b : List Stmt) (d : List Expr) (r : Option Expr) (t : List TypeParam) (c : Scope) (u : Option Scope) (m : Str) (p : Pos) (_ : S.s29 = Stmt.FunctionDef n a b d r t c u m p) => b) _ _ _ _ _ _ _ _ _ _ rfl
noncomputable abbrev S.c29 : Scope := (fun (n : Str) (a : Arguments) (b : List Stmt) (d : List Expr) (r : Option Expr) (t : List TypeParam) (c : Scope) (u : Option Scope) (m : Str) (p : Pos) (_ : S.s29 = Stmt.FunctionDef n a b d r t c u m p) => c) _ _ _ _ _ _ _ _ _ _ rfl
noncomputable abbrev S.a30 : Arguments := (fun (n : Str) (a : Arguments) (b : List Stmt) (d : List Expr) (r : Option Expr) (t : List TypeParam) (c : Scope) (u : Option Scope) (m : Str) (p : Pos) (_ : S.s30 = Stmt.FunctionDef n a b d r t c u m p) => a) _ _ _ _ _ _ _ _ _ _ rfl
noncomputable abbrev S.b30 : List Stmt := (fun (n : Str) (a : Arguments) (b : List Stmt) (d : List Expr) (r : Option Expr) (t : List TypeParam) (c : Scope) (u : Option Scope) (m : Str) (p : Pos) (_ : S.s30 = Stmt.FunctionDef n a b d r t c u m p) => b) _ _ _ _ _ _ _ _ _ _ rfl
noncomputable abbrev S.c30 : Scope := (fun (n : Str) (a : Arguments) (b : List Stmt) (d : List Expr) (r : Option Expr) (t : List TypeParam) (c : Scope) (u : Option Scope) (m : Str) (p : Pos) (_ : S.s30 = Stmt.FunctionDef n a b d r t c u m p) => c) _ _ _ _ _ _ _ _ _ _ rfl
noncomputable abbrev S.a31 : Arguments := (fun (n : Str) (a : Arguments) (b : List Stmt) (d : List Expr) (r : Option Expr) (t : List TypeParam) (c : Scope) (u : Option Scope) (m : Str) (p : Pos) (_ : S.s31 = Stmt.FunctionDef n a b d r t c u m p) => a) _ _ _ _ _ _ _ _ _ _ rfl
noncomputable abbrev S.b31 : List Stmt := (fun (n : Str) (a : Arguments) (b : List Stmt) (d : List Expr) (r : Option Expr) (t : List TypeParam) (c : Scope) (u : Option Scope) (m : Str) (p : Pos) (_ : S.s31 = Stmt.FunctionDef n a b d r t c u m p) => b) _ _ _ _ _ _ _ _ _ _ rfl
noncomputable abbrev S.c31 : Scope := (fun (n : Str) (a : Arguments) (b : List Stmt) (d : List Expr) (r : Option Expr) (t : List TypeParam) (c : Scope) (u : Option Scope) (m : Str) (p : Pos) (_ : S.s31 = Stmt.FunctionDef n a b d r t c u m p) => c) _ _ _ _ _ _ _ _ _ _ rfl
noncomputable abbrev S.a32 : Arguments := (fun (n : Str) (a : Arguments) (b : List Stmt) (d : List Expr) (r : Option Expr) (t : List TypeParam) (c : Scope) (u : Option Scope) (m : Str) (p : Pos) (_ : S.s32 = Stmt.FunctionDef n a b d r t c u m p) => a) _ _ _ _ _ _ _ _ _ _ rfl
noncomputable abbrev S.b32 : List Stmt := (fun (n : Str) (a : Arguments) (b : List Stmt) (d : List Expr) (r : Option Expr) (t : List TypeParam) (c : Scope) (u : Option Scope) (m : Str) (p : Pos) (_ : S.s32 = Stmt.FunctionDef n a b d r t c u m p) => b) _ _ _ _ _ _ _ _ _ _ rfl
noncomputable abbrev S.c32 : Scope := (fun (n : Str) (a : Arguments) (b : List Stmt) (d : List Expr) (r : Option Expr) (t : List TypeParam) (c : Scope) (u : Option Scope) (m : Str) (p : Pos) (_ : S.s32 = Stmt.FunctionDef n a b d r t c u m p) => c) _ _ _ _ _ _ _ _ _ _ rfl
noncomputable abbrev S.a33 : Arguments := (fun (n : Str) (a : Arguments) (b : List Stmt) (d : List Expr) (r : Option Expr) (t : List TypeParam) (c : Scope) (u : Option Scope) (m : Str) (p : Pos) (_ : S.s33 = Stmt.FunctionDef n a b d r t c u m p) => a) _ _ _ _ _ _ _ _ _ _ rfl
noncomputable abbrev S.b33 : List Stmt := (fun (n : Str) (a : Arguments) (b : List Stmt) (d : List Expr) (r : Option Expr) (t : List TypeParam) (c : Scope) (u : Option Scope) (m : Str) (p : Pos) (_ : S.s33 = Stmt.FunctionDef n a b d r t c u m p) => b) _ _ _ _ _ _ _ _ _ _ rfl
noncomputable abbrev S.c33 : Scope := (fun (n : Str) (a : Arguments) (b : List Stmt) (d : List Expr) (r : Option Expr) (t : List TypeParam) (c : Scope) (u : Option Scope) (m : Str) (p : Pos) (_ : S.s33 = Stmt.FunctionDef n a b d r t c u m p) => c) _ _ _ _ _ _ _ _ _ _ rfl
noncomputable abbrev S.a34 : Arguments := (fun (n : Str) (a : Arguments) (b : List Stmt) (d : List Expr) (r : Option Expr) (t : List TypeParam) (c : Scope) (u : Option Scope) (m : Str) (p : Pos) (_ : S.s34 = Stmt.FunctionDef n a b d r t c u m p) => a) _ _ _ _ _ _ _ _ _ _ rfl
noncomputable abbrev S.b34 : List Stmt := (fun (n : Str) (a : Arguments) (b : List Stmt) (d : List Expr) (r : Option Expr) (t : List TypeParam) (c : Scope) (u : Option Scope) (m : Str) (p : Pos) (_ : S.s34 = Stmt.FunctionDef n a b d r t c u m p) => b) _ _ _ _ _ _ _ _ _ _ rfl
noncomputable abbrev S.c34 : Scope := (fun (n : Str) (a : Arguments) (b : List Stmt) (d : List Expr) (r : Option Expr) (t : List TypeParam) (c : Scope) (u : Option Scope) (m : Str) (p : Pos) (_ : S.s34 = Stmt.FunctionDef n a b d r t c u m p) => c) _ _ _ _ _ _ _ _ _ _ rfl
noncomputable abbrev S.a35 : Arguments := (fun (n : Str) (a : Arguments) (b : List Stmt) (d : List Expr) (r : Option Expr) (t : List TypeParam) (c : Scope) (u : Option Scope) (m : Str) (p : Pos) (_ : S.s35 = Stmt.FunctionDef n a b d r t c u m p) => a) _ _ _ _ _ _ _ _ _ _ rfl
noncomputable abbrev S.b35 : List Stmt := (fun (n : Str) (a : Arguments) (b : List Stmt) (d : List Expr) (r : Option Expr) (t : List TypeParam) (c : Scope) (u : Option Scope) (m : Str) (p : Pos) (_ : S.s35 = Stmt.FunctionDef n a b d r t c u m p) => b) _ _ _ _ _ _ _ _ _ _ rfl
noncomputable abbrev S.c35 : Scope := (fun (n : Str) (a : Arguments) (b : List Stmt) (d : List Expr) (r : Option Expr) (t : List TypeParam) (c : Scope) (u : Option Scope) (m : Str) (p : Pos) (_ : S.s35 = Stmt.FunctionDef n a b d r t c u m p) => c) _ _ _ _ _ _ _ _ _ _ rfl
noncomputable abbrev S.a36 : Arguments := (fun (n : Str) (a : Arguments) (b : List Stmt) (d : List Expr) (r : Option Expr) (t : List TypeParam) (c : Scope) (u : Option Scope) (m : Str) (p : Pos) (_ : S.s36 = Stmt.FunctionDef n a b d r t c u m p) => a) _ _ _ _ _ _ _ _ _ _ rfl
noncomputable abbrev S.b36 : List Stmt := (fun (n : Str) (a : Arguments) (b : List Stmt) (d : List Expr) (r : Option Expr) (t : List TypeParam) (c : Scope) (u : Option Scope) (m : Str) (p : Pos) (_ : S.s36 = Stmt.FunctionDef n a b d r t c u m p) => b) _ _ _ _ _ _ _ _ _ _ rfl
noncomputable abbrev S.c36 : Scope := (fun (n : Str) (a : Arguments) (b : List Stmt) (d : List Expr) (r : Option Expr) (t : List TypeParam) (c : Scope) (u : Option Scope) (m : Str) (p : Pos) (_ : S.s36 = Stmt.FunctionDef n a b d r t c u m p) => c) _ _ _ _ _ _ _ _ _ _ rfl
noncomputable abbrev S.a37 : Arguments := (fun (n : Str) (a : Arguments) (b : List Stmt) (d : List Expr) (r : Option Expr) (t : List TypeParam) (c : Scope) (u : Option Scope) (m : Str) (p : Pos) (_ : S.s37 = Stmt.FunctionDef n a b d r t c u m p) => a) _ _ _ _ _ _ _ _ _ _ rfl
noncomputable abbrev S.b37 : List Stmt := (fun (n : Str) (a : Arguments) (b : List Stmt) (d : List Expr) (r : Option Expr) (t : List TypeParam) (c : Scope) (u : Option Scope) (m : Str) (p : Pos) (_ : S.s37 = Stmt.FunctionDef n a b d r t c u m p) => b) _ _ _ _ _ _ _ _ _ _ rfl
noncomputable abbrev S.c37 : Scope := (fun (n : Str) (a : Arguments) (b : List Stmt) (d : List Expr) (r : Option Expr) (t : List TypeParam) (c : Scope) (u : Option Scope) (m : Str) (p : Pos) (_ : S.s37 = Stmt.FunctionDef n a b d r t c u m p) => c) _ _ _ _ _ _ _ _ _ _ rfl
noncomputable abbrev S.a38 : Arguments := (fun (n : Str) (a : Arguments) (b : List Stmt) (d : List Expr) (r : Option Expr) (t : List TypeParam) (c : Scope) (u : Option Scope) (m : Str) (p : Pos) (_ : S.s38 = Stmt.FunctionDef n a b d r t c u m p) => a) _ _ _ _ _ _ _ _ _ _ rfl
noncomputable abbrev S.b38 : List Stmt := (fun (n : Str) (a : Arguments) (b : List Stmt) (d : List Expr) (r : Option Expr) (t : List TypeParam) (c : Scope) (u : Option Scope) (m : Str) (p : Pos) (_ : S.s38 = Stmt.FunctionDef n a b d r t c u m p) => b) _ _ _ _ _ _ _ _ _ _ rfl
noncomputable abbrev S.c38 : Scope := (fun (n : Str) (a : Arguments) (b : List Stmt) (d : List Expr) (r : Option Expr) (t : List TypeParam) (c : Scope) (u : Option Scope) (m : Str) (p : Pos) (_ : S.s38 = Stmt.FunctionDef n a b d r t c u m p) => c) _ _ _ _ _ _ _ _ _ _ rfl
noncomputable abbrev S.a39 : Arguments := (fun (n : Str) (a : Arguments) (b : List Stmt) (d : List Expr) (r : Option Expr) (t : List TypeParam) (c : Scope) (u : Option Scope) (m : Str) (p : Pos) (_ : S.s39 = Stmt.FunctionDef n a b d r t c u m p) => a) _ _ _ _ _ _ _ _ _ _ rfl
noncomputable abbrev S.b39 : List Stmt := (fun (n : Str) (a : Arguments) (b : List Stmt) (d : List Expr) (r : Option Expr) (t : List TypeParam) (c : Scope) (u : Option Scope) (m : Str) (p : Pos) (_ : S.s39 = Stmt.FunctionDef n a b d r t c u m p) => b) _ _ _ _ _ _ _ _ _ _ rfl
noncomputable abbrev S.c39 : Scope := (fun (n : Str) (a : Arguments) (b : List Stmt) (d : List Expr) (r : Option Expr) (t : List TypeParam) (c : Scope) (u : Option Scope) (m : Str) (p : Pos) (_ : S.s39 = Stmt.FunctionDef n a b d r t c u m p) => c) _ _ _ _ _ _ _ _ _ _ rfl
noncomputable abbrev S.a40 : Arguments := (fun (n : Str) (a : Arguments) (b : List Stmt) (d : List Expr) (r : Option Expr) (t : List TypeParam) (c : Scope) (u : Option Scope) (m : Str) (p : Pos) (_ : S.s40 = Stmt.FunctionDef n a b d r t c u m p) => a) _ _ _ _ _ _ _ _ _ _ rfl
noncomputable abbrev S.b40 : List Stmt := (fun (n : Str) (a : Arguments) (b : List Stmt) (d : List Expr) (r : Option Expr) (t : List TypeParam) (c : Scope) (u : Option Scope) (m : Str) (p : Pos) (_ : S.s40 = Stmt.FunctionDef n a b d r t c u m p) => b) _ _ _ _ _ _ _ _ _ _ rfl
noncomputable abbrev S.c40 : Scope := (fun (n : Str) (a : Arguments) (b : List Stmt) (d : List Expr) (r : Option Expr) (t : List TypeParam) (c : Scope) (u : Option Scope) (m : Str) (p : Pos) (_ : S.s40 = Stmt.FunctionDef n a b d r t c u m p) => c) _ _ _ _ _ _ _ _ _ _ rfl
noncomputable abbrev S.a41 : Arguments := (fun (n : Str) (a : Arguments) (b : List Stmt) (d : List Expr) (r : Option Expr) (t : List TypeParam) (c : Scope) (u : Option Scope) (m : Str) (p : Pos) (_ : S.s41 = Stmt.FunctionDef n a b d r t c u m p) => a) _ _ _ _ _ _ _ _ _ _ rfl
noncomputable abbrev S.b41 : List Stmt := (fun (n : Str) (a : Arguments) (b : List Stmt) (d : List Expr) (r : Option Expr) (t : List TypeParam) (c : Scope) (u : Option Scope) (m : Str) (p : Pos) (_ : S.s41 = Stmt.FunctionDef n a b d r t c u m p) => b) _ _ _ _ _ _ _ _ _ _ rfl
noncomputable abbrev S.c41 : Scope := (fun (n : Str) (a : Arguments) (b : List Stmt) (d : List Expr) (r : Option Expr) (t : List TypeParam) (c : Scope) (u : Option Scope) (m : Str) (p : Pos) (_ : S.s41 = Stmt.FunctionDef n a b d r t c u m p) => c) _ _ _ _ _ _ _ _ _ _ rfl
noncomputable abbrev S.a42 : Arguments := (fun (n : Str) (a : Arguments) (b : List Stmt) (d : List Expr) (r : Option Expr) (t : List TypeParam) (c : Scope) (u : Option Scope) (m : Str) (p : Pos) (_ : S.s42 = Stmt.FunctionDef n a b d r t c u m p) => a) _ _ _ _ _ _ _ _ _ _ rfl
noncomputable abbrev S.b42 : List Stmt := (fun (n : Str) (a : Arguments) (b : List Stmt) (d : List Expr) (r : Option Expr) (t : List TypeParam) (c : Scope) (u : Option Scope) (m : Str) (p : Pos) (_ : S.s42 = Stmt.FunctionDef n a b d r t c u m p) => b) _ _ _ _ _ _ _ _ _ _ rfl
noncomputable abbrev S.c42 : Scope := (fun (n : Str) (a : Arguments) (b : List Stmt) (d : List Expr) (r : Option Expr) (t : List TypeParam) (c : Scope) (u : Option Scope) (m : Str) (p : Pos) (_ : S.s42 = Stmt.FunctionDef n a b d r t c u m p) => c) _ _ _ _ _ _ _ _ _ _ rfl
noncomputable abbrev S.am : Arguments := (fun (cn : Str) (bs : List Expr) (ks : List Keyword) (n : Str) (a : Arguments) (b : List Stmt) (d : List Expr) (r : Option Expr) (t : List TypeParam) (c : Scope) (u : Option Scope) (m : Str) (p : Pos) (rs : List Stmt) (ds : List Expr) (tp : List TypeParam) (sc : Scope) (ts : Option Scope) (bd : Str) (sa : List Str) (ps : Pos) (_ : S.s1 = Stmt.ClassDef cn bs ks (Stmt.FunctionDef n a b d r t c u m p :: rs) ds tp sc ts bd sa ps) => a) _ _ _ _ _ _ _ _ _ _ _ _ _ _ _ _ _ _ _ _ _ rfl
noncomputable abbrev S.bm : List Stmt := (fun (cn : Str) (bs : List Expr) (ks : List Keyword) (n : Str) (a : Arguments) (b : List Stmt) (d : List Expr) (r : Option Expr) (t : List TypeParam) (c : Scope) (u : Option Scope) (m : Str) (p : Pos) (rs : List Stmt) (ds : List Expr) (tp : List TypeParam) (sc : Scope) (ts : Option Scope) (bd : Str) (sa : List Str) (ps : Pos) (_ : S.s1 = Stmt.ClassDef cn bs ks (Stmt.FunctionDef n a b d r t c u m p :: rs) ds tp sc ts bd sa ps) => b) _ _ _ _ _ _ _ _ _ _ _ _ _ _ _ _ _ _ _ _ _ rfl
noncomputable abbrev S.cm : Scope := (fun (cn : Str) (bs : List Expr) (ks : List Keyword) (n : Str) (a : Arguments) (b : List Stmt) (d : List Expr) (r : Option Expr) (t : List TypeParam) (c : Scope) (u : Option Scope) (m : Str) (p : Pos) (rs : List Stmt) (ds : List Expr) (tp : List TypeParam) (sc : Scope) (ts : Option Scope) (bd : Str) (sa : List Str) (ps : Pos) (_ : S.s1 = Stmt.ClassDef cn bs ks (Stmt.FunctionDef n a b d r t c u m p :: rs) ds tp sc ts bd sa ps) => c) _ _ _ _ _ _ _ _ _ _ _ _ _ _ _ _ _ _ _ _ _ rfl
/-- the written part of the heap behind the top: the defs, their codes, the names -/
noncomputable def hd.heap_39 (P : Params) : Frag :=
  (nat_lit 3, { cls := Value.type "dict", data := Data.dict #[{ hash := PyData.keyHash P (Str.ofString "__name__"), key := Value.str (Str.ofString "__name__") 165, val := Value.str (Str.ofString "law_on0236_01") 407 }, { hash := PyData.keyHash P (Str.ofString "__doc__"), key := Value.str (Str.ofString "__doc__") 166, val := Value.none }, { hash := PyData.keyHash P (Str.ofString "__package__"), key := Value.str (Str.ofString "__package__") 167, val := Value.none }, { hash := PyData.keyHash P (Str.ofString "__loader__"), key := Value.str (Str.ofString "__loader__") 168, val := Value.builtin "__main__.__loader__#\x6fpaque" }, { hash := PyData.keyHash P (Str.ofString "__spec__"), key := Value.str (Str.ofString "__spec__") 169, val := Value.none }, { hash := PyData.keyHash P (Str.ofString "__annotations__"), key := Value.str (Str.ofString "__annotations__") 170, val := Value.ref 6 }, { hash := PyData.keyHash P (Str.ofString "__builtins__"), key := Value.str (Str.ofString "__builtins__") 171, val := Value.ref 4 }, { hash := PyData.keyHash P (Str.ofString "__file__"), key := Value.str (Str.ofString "__file__") 173, val := Value.str (Str.ofString "/claim/cut.py") 172 }, { hash := PyData.keyHash P (Str.ofString "__cached__"), key := Value.str (Str.ofString "__cached__") 174, val := Value.none }, { hash := PyData.keyHash P (Str.ofString "MillError"), key := Value.str (Str.ofString "MillError") 217, val := Value.ref 31 }, { hash := PyData.keyHash P (Str.ofString "NumberFault"), key := Value.str (Str.ofString "NumberFault") 233, val := Value.ref 44 }, { hash := PyData.keyHash P (Str.ofString "common_divisor"), key := Value.str (Str.ofString "common_divisor") 245, val := Value.ref 53 }, { hash := PyData.keyHash P (Str.ofString "fraction"), key := Value.str (Str.ofString "fraction") 255, val := Value.ref 61 }, { hash := PyData.keyHash P (Str.ofString "plus"), key := Value.str (Str.ofString "plus") 263, val := Value.ref 68 }, { hash := PyData.keyHash P (Str.ofString "minus"), key := Value.str (Str.ofString "minus") 271, val := Value.ref 75 }, { hash := PyData.keyHash P (Str.ofString "times"), key := Value.str (Str.ofString "times") 279, val := Value.ref 82 }, { hash := PyData.keyHash P (Str.ofString "sign_of"), key := Value.str (Str.ofString "sign_of") 286, val := Value.ref 89 }, { hash := PyData.keyHash P (Str.ofString "compare"), key := Value.str (Str.ofString "compare") 294, val := Value.ref 96 }, { hash := PyData.keyHash P (Str.ofString "least"), key := Value.str (Str.ofString "least") 303, val := Value.ref 103 }, { hash := PyData.keyHash P (Str.ofString "greatest"), key := Value.str (Str.ofString "greatest") 312, val := Value.ref 110 }, { hash := PyData.keyHash P (Str.ofString "mixed"), key := Value.str (Str.ofString "mixed") 323, val := Value.ref 117 }, { hash := PyData.keyHash P (Str.ofString "steps_of"), key := Value.str (Str.ofString "steps_of") 329, val := Value.ref 122 }, { hash := PyData.keyHash P (Str.ofString "split"), key := Value.str (Str.ofString "split") 335, val := Value.ref 127 }, { hash := PyData.keyHash P (Str.ofString "HALF"), key := Value.str (Str.ofString "HALF") 340, val := Value.ref 128 }, { hash := PyData.keyHash P (Str.ofString "box_of"), key := Value.str (Str.ofString "box_of") 346, val := Value.ref 133 }, { hash := PyData.keyHash P (Str.ofString "joined_boxes"), key := Value.str (Str.ofString "joined_boxes") 354, val := Value.ref 140 }, { hash := PyData.keyHash P (Str.ofString "common_box"), key := Value.str (Str.ofString "common_box") 366, val := Value.ref 147 }, { hash := PyData.keyHash P (Str.ofString "grown_box"), key := Value.str (Str.ofString "grown_box") 374, val := Value.ref 154 }, { hash := PyData.keyHash P (Str.ofString "area_twice"), key := Value.str (Str.ofString "area_twice") 386, val := Value.ref 161 }, { hash := PyData.keyHash P (Str.ofString "point_box"), key := Value.str (Str.ofString "point_box") 392, val := Value.ref 166 }, { hash := PyData.keyHash P (Str.ofString "curve_box"), key := Value.str (Str.ofString "curve_box") 399, val := Value.ref 172 }, { hash := PyData.keyHash P (Str.ofString "reached_box"), key := Value.str (Str.ofString "reached_box") 406, val := Value.ref 178 }, { hash := PyData.keyHash P (Str.ofString "_law_pool"), key := Value.str (Str.ofString "_law_pool") 419, val := Value.ref 185 }, { hash := PyData.keyHash P (Str.ofString "_law_take"), key := Value.str (Str.ofString "_law_take") 428, val := Value.ref 192 }, { hash := PyData.keyHash P (Str.ofString "_law_one"), key := Value.str (Str.ofString "_law_one") 436, val := Value.ref 199 }, { hash := PyData.keyHash P (Str.ofString "_law_contours"), key := Value.str (Str.ofString "_law_contours") 442, val := Value.ref 204 }, { hash := PyData.keyHash P (Str.ofString "_law_is_in"), key := Value.str (Str.ofString "_law_is_in") 450, val := Value.ref 211 }, { hash := PyData.keyHash P (Str.ofString "_law_box_right"), key := Value.str (Str.ofString "_law_box_right") 456, val := Value.ref 216 }, { hash := PyData.keyHash P (Str.ofString "_law_corners"), key := Value.str (Str.ofString "_law_corners") 463, val := Value.ref 223 }, { hash := PyData.keyHash P (Str.ofString "_law_two_right"), key := Value.str (Str.ofString "_law_two_right") 469, val := Value.ref 228 }, { hash := PyData.keyHash P (Str.ofString "_law_mean"), key := Value.str (Str.ofString "_law_mean") 482, val := Value.ref 235 }, { hash := PyData.keyHash P (Str.ofString "_law_halved"), key := Value.str (Str.ofString "_law_halved") 488, val := Value.ref 240 }, { hash := PyData.keyHash P (Str.ofString "_law_parts"), key := Value.str (Str.ofString "_law_parts") 494, val := Value.ref 245 }, { hash := PyData.keyHash P (Str.ofString "_law_around"), key := Value.str (Str.ofString "_law_around") 500, val := Value.ref 250 }, { hash := PyData.keyHash P (Str.ofString "_law_curve_right"), key := Value.str (Str.ofString "_law_curve_right") 506, val := Value.ref 255 }, { hash := PyData.keyHash P (Str.ofString "_law_area"), key := Value.str (Str.ofString "_law_area") 517, val := Value.ref 262 }, { hash := PyData.keyHash P (Str.ofString "law"), key := Value.str (Str.ofString "law") 523, val := Value.ref 267 }] 47 }) ::
  (nat_lit 52, { cls := Value.type "code", data := Data.fields #[Value.str (Str.ofString "common_divisor") 236, Value.str (Str.ofString "common_divisor") 237, Value.str (Str.ofString "/claim/cut.py") 238, Value.int 9 0, Value.int 2 0, Value.int 0 0, Value.int 0 0, Value.int 3 0, Value.ref 47, Value.bool true, Value.int 181 0, Value.ref 48, Value.none, Value.ref 49, Value.ref 50, Value.ref 51, Value.int 243 0, Value.int 9 0, Value.str (Str.ofString "/claim/cut.py") 244] }) ::
  (nat_lit 53, { cls := .type "function", data := .func (fnX (Str.ofString "common_divisor") (Str.ofString "common_divisor") S.a4 S.b4 S.c4 [] (Value.none) (Value.none) (Value.none) (Value.str (Str.ofString "outlinemill.exact") 234) (none) (Value.ref 52) (Value.none)) }) ::
  (nat_lit 54, { cls := Value.type "tuple", data := Data.seq #[Value.int 1 246] }) ::
  (nat_lit 60, { cls := Value.type "code", data := Data.fields #[Value.str (Str.ofString "fraction") 247, Value.str (Str.ofString "fraction") 248, Value.str (Str.ofString "/claim/cut.py") 249, Value.int 14 0, Value.int 2 0, Value.int 0 0, Value.int 0 0, Value.int 3 0, Value.ref 55, Value.bool true, Value.int 181 0, Value.ref 56, Value.none, Value.ref 57, Value.ref 58, Value.ref 59, Value.int 253 0, Value.int 14 0, Value.str (Str.ofString "/claim/cut.py") 254] }) ::
  (nat_lit 61, { cls := .type "function", data := .func (fnX (Str.ofString "fraction") (Str.ofString "fraction") S.a5 S.b5 S.c5 [] (Value.ref 54) (Value.none) (Value.none) (Value.str (Str.ofString "outlinemill.exact") 234) (none) (Value.ref 60) (Value.none)) }) ::
  (nat_lit 67, { cls := Value.type "code", data := Data.fields #[Value.str (Str.ofString "plus") 256, Value.str (Str.ofString "plus") 257, Value.str (Str.ofString "/claim/cut.py") 258, Value.int 21 0, Value.int 2 0, Value.int 0 0, Value.int 0 0, Value.int 3 0, Value.ref 62, Value.bool true, Value.int 181 0, Value.ref 63, Value.none, Value.ref 64, Value.ref 65, Value.ref 66, Value.int 261 0, Value.int 21 0, Value.str (Str.ofString "/claim/cut.py") 262] }) ::
  (nat_lit 68, { cls := .type "function", data := .func (fnX (Str.ofString "plus") (Str.ofString "plus") S.a6 S.b6 S.c6 [] (Value.none) (Value.none) (Value.none) (Value.str (Str.ofString "outlinemill.exact") 234) (none) (Value.ref 67) (Value.none)) }) ::
  (nat_lit 74, { cls := Value.type "code", data := Data.fields #[Value.str (Str.ofString "minus") 264, Value.str (Str.ofString "minus") 265, Value.str (Str.ofString "/claim/cut.py") 266, Value.int 23 0, Value.int 2 0, Value.int 0 0, Value.int 0 0, Value.int 3 0, Value.ref 69, Value.bool true, Value.int 181 0, Value.ref 70, Value.none, Value.ref 71, Value.ref 72, Value.ref 73, Value.int 269 0, Value.int 23 0, Value.str (Str.ofString "/claim/cut.py") 270] }) ::
  (nat_lit 75, { cls := .type "function", data := .func (fnX (Str.ofString "minus") (Str.ofString "minus") S.a7 S.b7 S.c7 [] (Value.none) (Value.none) (Value.none) (Value.str (Str.ofString "outlinemill.exact") 234) (none) (Value.ref 74) (Value.none)) }) ::
  (nat_lit 81, { cls := Value.type "code", data := Data.fields #[Value.str (Str.ofString "times") 272, Value.str (Str.ofString "times") 273, Value.str (Str.ofString "/claim/cut.py") 274, Value.int 25 0, Value.int 2 0, Value.int 0 0, Value.int 0 0, Value.int 3 0, Value.ref 76, Value.bool true, Value.int 181 0, Value.ref 77, Value.none, Value.ref 78, Value.ref 79, Value.ref 80, Value.int 277 0, Value.int 25 0, Value.str (Str.ofString "/claim/cut.py") 278] }) ::
  (nat_lit 82, { cls := .type "function", data := .func (fnX (Str.ofString "times") (Str.ofString "times") S.a8 S.b8 S.c8 [] (Value.none) (Value.none) (Value.none) (Value.str (Str.ofString "outlinemill.exact") 234) (none) (Value.ref 81) (Value.none)) }) ::
  (nat_lit 88, { cls := Value.type "code", data := Data.fields #[Value.str (Str.ofString "sign_of") 280, Value.str (Str.ofString "sign_of") 281, Value.str (Str.ofString "/claim/cut.py") 282, Value.int 27 0, Value.int 1 0, Value.int 0 0, Value.int 0 0, Value.int 3 0, Value.ref 83, Value.bool true, Value.int 181 0, Value.ref 84, Value.none, Value.ref 85, Value.ref 86, Value.ref 87, Value.int 284 0, Value.int 27 0, Value.str (Str.ofString "/claim/cut.py") 285] }) ::
  (nat_lit 89, { cls := .type "function", data := .func (fnX (Str.ofString "sign_of") (Str.ofString "sign_of") S.a9 S.b9 S.c9 [] (Value.none) (Value.none) (Value.none) (Value.str (Str.ofString "outlinemill.exact") 234) (none) (Value.ref 88) (Value.none)) }) ::
  (nat_lit 95, { cls := Value.type "code", data := Data.fields #[Value.str (Str.ofString "compare") 287, Value.str (Str.ofString "compare") 288, Value.str (Str.ofString "/claim/cut.py") 289, Value.int 33 0, Value.int 2 0, Value.int 0 0, Value.int 0 0, Value.int 3 0, Value.ref 90, Value.bool true, Value.int 181 0, Value.ref 91, Value.none, Value.ref 92, Value.ref 93, Value.ref 94, Value.int 292 0, Value.int 33 0, Value.str (Str.ofString "/claim/cut.py") 293] }) ::
  (nat_lit 96, { cls := .type "function", data := .func (fnX (Str.ofString "compare") (Str.ofString "compare") S.a10 S.b10 S.c10 [] (Value.none) (Value.none) (Value.none) (Value.str (Str.ofString "outlinemill.exact") 234) (none) (Value.ref 95) (Value.none)) }) ::
  (nat_lit 102, { cls := Value.type "code", data := Data.fields #[Value.str (Str.ofString "least") 295, Value.str (Str.ofString "least") 296, Value.str (Str.ofString "/claim/cut.py") 297, Value.int 35 0, Value.int 1 0, Value.int 0 0, Value.int 0 0, Value.int 3 0, Value.ref 97, Value.bool true, Value.int 181 0, Value.ref 98, Value.none, Value.ref 99, Value.ref 100, Value.ref 101, Value.int 301 0, Value.int 35 0, Value.str (Str.ofString "/claim/cut.py") 302] }) ::
  (nat_lit 103, { cls := .type "function", data := .func (fnX (Str.ofString "least") (Str.ofString "least") S.a11 S.b11 S.c11 [] (Value.none) (Value.none) (Value.none) (Value.str (Str.ofString "outlinemill.exact") 234) (none) (Value.ref 102) (Value.none)) }) ::
  (nat_lit 109, { cls := Value.type "code", data := Data.fields #[Value.str (Str.ofString "greatest") 304, Value.str (Str.ofString "greatest") 305, Value.str (Str.ofString "/claim/cut.py") 306, Value.int 41 0, Value.int 1 0, Value.int 0 0, Value.int 0 0, Value.int 3 0, Value.ref 104, Value.bool true, Value.int 181 0, Value.ref 105, Value.none, Value.ref 106, Value.ref 107, Value.ref 108, Value.int 310 0, Value.int 41 0, Value.str (Str.ofString "/claim/cut.py") 311] }) ::
  (nat_lit 110, { cls := .type "function", data := .func (fnX (Str.ofString "greatest") (Str.ofString "greatest") S.a12 S.b12 S.c12 [] (Value.none) (Value.none) (Value.none) (Value.str (Str.ofString "outlinemill.exact") 234) (none) (Value.ref 109) (Value.none)) }) ::
  (nat_lit 116, { cls := Value.type "code", data := Data.fields #[Value.str (Str.ofString "mixed") 315, Value.str (Str.ofString "mixed") 316, Value.str (Str.ofString "/claim/cut.py") 317, Value.int 48 0, Value.int 3 0, Value.int 0 0, Value.int 0 0, Value.int 3 0, Value.ref 111, Value.bool true, Value.int 181 0, Value.ref 112, Value.none, Value.ref 113, Value.ref 114, Value.ref 115, Value.int 321 0, Value.int 48 0, Value.str (Str.ofString "/claim/cut.py") 322] }) ::
  (nat_lit 117, { cls := .type "function", data := .func (fnX (Str.ofString "mixed") (Str.ofString "mixed") S.a14 S.b14 S.c14 [] (Value.none) (Value.none) (Value.none) (Value.str (Str.ofString "outlinemill.curves") 313) (none) (Value.ref 116) (Value.none)) }) ::
  (nat_lit 121, { cls := Value.type "code", data := Data.fields #[Value.str (Str.ofString "steps_of") 324, Value.str (Str.ofString "steps_of") 325, Value.str (Str.ofString "/claim/cut.py") 326, Value.int 50 0, Value.int 2 0, Value.int 0 0, Value.int 0 0, Value.int 3 0, Value.ref 118, Value.bool true, Value.int 181 0, Value.ref 119, Value.none, Value.none, Value.none, Value.ref 120, Value.int 327 0, Value.int 50 0, Value.str (Str.ofString "/claim/cut.py") 328] }) ::
  (nat_lit 122, { cls := .type "function", data := .func (fnX (Str.ofString "steps_of") (Str.ofString "steps_of") S.a15 S.b15 S.c15 [] (Value.none) (Value.none) (Value.none) (Value.str (Str.ofString "outlinemill.curves") 313) (none) (Value.ref 121) (Value.none)) }) ::
  (nat_lit 126, { cls := Value.type "code", data := Data.fields #[Value.str (Str.ofString "split") 330, Value.str (Str.ofString "split") 331, Value.str (Str.ofString "/claim/cut.py") 332, Value.int 56 0, Value.int 2 0, Value.int 0 0, Value.int 0 0, Value.int 3 0, Value.ref 123, Value.bool true, Value.int 181 0, Value.ref 124, Value.none, Value.none, Value.none, Value.ref 125, Value.int 333 0, Value.int 56 0, Value.str (Str.ofString "/claim/cut.py") 334] }) ::
  (nat_lit 127, { cls := .type "function", data := .func (fnX (Str.ofString "split") (Str.ofString "split") S.a16 S.b16 S.c16 [] (Value.none) (Value.none) (Value.none) (Value.str (Str.ofString "outlinemill.curves") 313) (none) (Value.ref 126) (Value.none)) }) ::
  (nat_lit 128, { cls := Value.type "tuple", data := Data.seq #[Value.int 1 338, Value.int 2 339] }) ::
  (nat_lit 132, { cls := Value.type "code", data := Data.fields #[Value.str (Str.ofString "box_of") 341, Value.str (Str.ofString "box_of") 342, Value.str (Str.ofString "/claim/cut.py") 343, Value.int 61 0, Value.int 1 0, Value.int 0 0, Value.int 0 0, Value.int 3 0, Value.ref 129, Value.bool true, Value.int 181 0, Value.ref 130, Value.none, Value.none, Value.none, Value.ref 131, Value.int 344 0, Value.int 61 0, Value.str (Str.ofString "/claim/cut.py") 345] }) ::
  (nat_lit 133, { cls := .type "function", data := .func (fnX (Str.ofString "box_of") (Str.ofString "box_of") S.a19 S.b19 S.c19 [] (Value.none) (Value.none) (Value.none) (Value.str (Str.ofString "outlinemill.bounds") 336) (none) (Value.ref 132) (Value.none)) }) ::
  (nat_lit 139, { cls := Value.type "code", data := Data.fields #[Value.str (Str.ofString "joined_boxes") 347, Value.str (Str.ofString "joined_boxes") 348, Value.str (Str.ofString "/claim/cut.py") 349, Value.int 67 0, Value.int 2 0, Value.int 0 0, Value.int 0 0, Value.int 3 0, Value.ref 134, Value.bool true, Value.int 181 0, Value.ref 135, Value.none, Value.ref 136, Value.ref 137, Value.ref 138, Value.int 352 0, Value.int 67 0, Value.str (Str.ofString "/claim/cut.py") 353] }) ::
  (nat_lit 140, { cls := .type "function", data := .func (fnX (Str.ofString "joined_boxes") (Str.ofString "joined_boxes") S.a20 S.b20 S.c20 [] (Value.none) (Value.none) (Value.none) (Value.str (Str.ofString "outlinemill.bounds") 336) (none) (Value.ref 139) (Value.none)) }) ::
  (nat_lit 146, { cls := Value.type "code", data := Data.fields #[Value.str (Str.ofString "common_box") 355, Value.str (Str.ofString "common_box") 356, Value.str (Str.ofString "/claim/cut.py") 357, Value.int 71 0, Value.int 2 0, Value.int 0 0, Value.int 0 0, Value.int 3 0, Value.ref 141, Value.bool true, Value.int 181 0, Value.ref 142, Value.none, Value.ref 143, Value.ref 144, Value.ref 145, Value.int 364 0, Value.int 71 0, Value.str (Str.ofString "/claim/cut.py") 365] }) ::
  (nat_lit 147, { cls := .type "function", data := .func (fnX (Str.ofString "common_box") (Str.ofString "common_box") S.a21 S.b21 S.c21 [] (Value.none) (Value.none) (Value.none) (Value.str (Str.ofString "outlinemill.bounds") 336) (none) (Value.ref 146) (Value.none)) }) ::
  (nat_lit 153, { cls := Value.type "code", data := Data.fields #[Value.str (Str.ofString "grown_box") 367, Value.str (Str.ofString "grown_box") 368, Value.str (Str.ofString "/claim/cut.py") 369, Value.int 75 0, Value.int 2 0, Value.int 0 0, Value.int 0 0, Value.int 3 0, Value.ref 148, Value.bool true, Value.int 181 0, Value.ref 149, Value.none, Value.ref 150, Value.ref 151, Value.ref 152, Value.int 372 0, Value.int 75 0, Value.str (Str.ofString "/claim/cut.py") 373] }) ::
  (nat_lit 154, { cls := .type "function", data := .func (fnX (Str.ofString "grown_box") (Str.ofString "grown_box") S.a22 S.b22 S.c22 [] (Value.none) (Value.none) (Value.none) (Value.str (Str.ofString "outlinemill.bounds") 336) (none) (Value.ref 153) (Value.none)) }) ::
  (nat_lit 160, { cls := Value.type "code", data := Data.fields #[Value.str (Str.ofString "area_twice") 375, Value.str (Str.ofString "area_twice") 376, Value.str (Str.ofString "/claim/cut.py") 377, Value.int 77 0, Value.int 1 0, Value.int 0 0, Value.int 0 0, Value.int 3 0, Value.ref 155, Value.bool true, Value.int 181 0, Value.ref 156, Value.none, Value.ref 157, Value.ref 158, Value.ref 159, Value.int 384 0, Value.int 77 0, Value.str (Str.ofString "/claim/cut.py") 385] }) ::
  (nat_lit 161, { cls := .type "function", data := .func (fnX (Str.ofString "area_twice") (Str.ofString "area_twice") S.a23 S.b23 S.c23 [] (Value.none) (Value.none) (Value.none) (Value.str (Str.ofString "outlinemill.bounds") 336) (none) (Value.ref 160) (Value.none)) }) ::
  (nat_lit 165, { cls := Value.type "code", data := Data.fields #[Value.str (Str.ofString "point_box") 387, Value.str (Str.ofString "point_box") 388, Value.str (Str.ofString "/claim/cut.py") 389, Value.int 84 0, Value.int 1 0, Value.int 0 0, Value.int 0 0, Value.int 3 0, Value.ref 162, Value.bool true, Value.int 181 0, Value.ref 163, Value.none, Value.none, Value.none, Value.ref 164, Value.int 390 0, Value.int 84 0, Value.str (Str.ofString "/claim/cut.py") 391] }) ::
  (nat_lit 166, { cls := .type "function", data := .func (fnX (Str.ofString "point_box") (Str.ofString "point_box") S.a24 S.b24 S.c24 [] (Value.none) (Value.none) (Value.none) (Value.str (Str.ofString "outlinemill.bounds") 336) (none) (Value.ref 165) (Value.none)) }) ::
  (nat_lit 167, { cls := Value.type "tuple", data := Data.seq #[Value.int 3 393] }) ::
  (nat_lit 171, { cls := Value.type "code", data := Data.fields #[Value.str (Str.ofString "curve_box") 394, Value.str (Str.ofString "curve_box") 395, Value.str (Str.ofString "/claim/cut.py") 396, Value.int 87 0, Value.int 2 0, Value.int 0 0, Value.int 0 0, Value.int 3 0, Value.ref 168, Value.bool true, Value.int 181 0, Value.ref 169, Value.none, Value.none, Value.none, Value.ref 170, Value.int 397 0, Value.int 87 0, Value.str (Str.ofString "/claim/cut.py") 398] }) ::
  (nat_lit 172, { cls := .type "function", data := .func (fnX (Str.ofString "curve_box") (Str.ofString "curve_box") S.a25 S.b25 S.c25 [] (Value.ref 167) (Value.none) (Value.none) (Value.str (Str.ofString "outlinemill.bounds") 336) (none) (Value.ref 171) (Value.none)) }) ::
  (nat_lit 173, { cls := Value.type "tuple", data := Data.seq #[Value.int 3 400] }) ::
  (nat_lit 177, { cls := Value.type "code", data := Data.fields #[Value.str (Str.ofString "reached_box") 401, Value.str (Str.ofString "reached_box") 402, Value.str (Str.ofString "/claim/cut.py") 403, Value.int 95 0, Value.int 2 0, Value.int 0 0, Value.int 0 0, Value.int 3 0, Value.ref 174, Value.bool true, Value.int 181 0, Value.ref 175, Value.none, Value.none, Value.none, Value.ref 176, Value.int 404 0, Value.int 95 0, Value.str (Str.ofString "/claim/cut.py") 405] }) ::
  (nat_lit 178, { cls := .type "function", data := .func (fnX (Str.ofString "reached_box") (Str.ofString "reached_box") S.a26 S.b26 S.c26 [] (Value.ref 173) (Value.none) (Value.none) (Value.str (Str.ofString "outlinemill.bounds") 336) (none) (Value.ref 177) (Value.none)) }) ::
  (nat_lit 184, { cls := Value.type "code", data := Data.fields #[Value.str (Str.ofString "_law_pool") 409, Value.str (Str.ofString "_law_pool") 410, Value.str (Str.ofString "/claim/cut.py") 411, Value.int 104 0, Value.int 2 0, Value.int 0 0, Value.int 0 0, Value.int 3 0, Value.ref 179, Value.bool true, Value.int 181 0, Value.ref 180, Value.none, Value.ref 181, Value.ref 182, Value.ref 183, Value.int 417 0, Value.int 104 0, Value.str (Str.ofString "/claim/cut.py") 418] }) ::
  (nat_lit 185, { cls := .type "function", data := .func (fnX (Str.ofString "_law_pool") (Str.ofString "_law_pool") S.a28 S.b28 S.c28 [] (Value.none) (Value.none) (Value.none) (Value.str (Str.ofString "law_on0236_01") 407) (none) (Value.ref 184) (Value.none)) }) ::
  (nat_lit 191, { cls := Value.type "code", data := Data.fields #[Value.str (Str.ofString "_law_take") 420, Value.str (Str.ofString "_law_take") 421, Value.str (Str.ofString "/claim/cut.py") 422, Value.int 111 0, Value.int 2 0, Value.int 0 0, Value.int 0 0, Value.int 3 0, Value.ref 186, Value.bool true, Value.int 181 0, Value.ref 187, Value.none, Value.ref 188, Value.ref 189, Value.ref 190, Value.int 426 0, Value.int 111 0, Value.str (Str.ofString "/claim/cut.py") 427] }) ::
  (nat_lit 192, { cls := .type "function", data := .func (fnX (Str.ofString "_law_take") (Str.ofString "_law_take") S.a29 S.b29 S.c29 [] (Value.none) (Value.none) (Value.none) (Value.str (Str.ofString "law_on0236_01") 407) (none) (Value.ref 191) (Value.none)) }) ::
  (nat_lit 198, { cls := Value.type "code", data := Data.fields #[Value.str (Str.ofString "_law_one") 429, Value.str (Str.ofString "_law_one") 430, Value.str (Str.ofString "/claim/cut.py") 431, Value.int 118 0, Value.int 2 0, Value.int 0 0, Value.int 0 0, Value.int 3 0, Value.ref 193, Value.bool true, Value.int 181 0, Value.ref 194, Value.none, Value.ref 195, Value.ref 196, Value.ref 197, Value.int 434 0, Value.int 118 0, Value.str (Str.ofString "/claim/cut.py") 435] }) ::
  (nat_lit 199, { cls := .type "function", data := .func (fnX (Str.ofString "_law_one") (Str.ofString "_law_one") S.a30 S.b30 S.c30 [] (Value.none) (Value.none) (Value.none) (Value.str (Str.ofString "law_on0236_01") 407) (none) (Value.ref 198) (Value.none)) }) ::
  (nat_lit 203, { cls := Value.type "code", data := Data.fields #[Value.str (Str.ofString "_law_contours") 437, Value.str (Str.ofString "_law_contours") 438, Value.str (Str.ofString "/claim/cut.py") 439, Value.int 120 0, Value.int 2 0, Value.int 0 0, Value.int 0 0, Value.int 3 0, Value.ref 200, Value.bool true, Value.int 181 0, Value.ref 201, Value.none, Value.none, Value.none, Value.ref 202, Value.int 440 0, Value.int 120 0, Value.str (Str.ofString "/claim/cut.py") 441] }) ::
  (nat_lit 204, { cls := .type "function", data := .func (fnX (Str.ofString "_law_contours") (Str.ofString "_law_contours") S.a31 S.b31 S.c31 [] (Value.none) (Value.none) (Value.none) (Value.str (Str.ofString "law_on0236_01") 407) (none) (Value.ref 203) (Value.none)) }) ::
  (nat_lit 210, { cls := Value.type "code", data := Data.fields #[Value.str (Str.ofString "_law_is_in") 443, Value.str (Str.ofString "_law_is_in") 444, Value.str (Str.ofString "/claim/cut.py") 445, Value.int 127 0, Value.int 2 0, Value.int 0 0, Value.int 0 0, Value.int 3 0, Value.ref 205, Value.bool true, Value.int 181 0, Value.ref 206, Value.none, Value.ref 207, Value.ref 208, Value.ref 209, Value.int 448 0, Value.int 127 0, Value.str (Str.ofString "/claim/cut.py") 449] }) ::
  (nat_lit 211, { cls := .type "function", data := .func (fnX (Str.ofString "_law_is_in") (Str.ofString "_law_is_in") S.a32 S.b32 S.c32 [] (Value.none) (Value.none) (Value.none) (Value.str (Str.ofString "law_on0236_01") 407) (none) (Value.ref 210) (Value.none)) }) ::
  (nat_lit 215, { cls := Value.type "code", data := Data.fields #[Value.str (Str.ofString "_law_box_right") 451, Value.str (Str.ofString "_law_box_right") 452, Value.str (Str.ofString "/claim/cut.py") 453, Value.int 129 0, Value.int 2 0, Value.int 0 0, Value.int 0 0, Value.int 3 0, Value.ref 212, Value.bool true, Value.int 181 0, Value.ref 213, Value.none, Value.none, Value.none, Value.ref 214, Value.int 454 0, Value.int 129 0, Value.str (Str.ofString "/claim/cut.py") 455] }) ::
  (nat_lit 216, { cls := .type "function", data := .func (fnX (Str.ofString "_law_box_right") (Str.ofString "_law_box_right") S.a33 S.b33 S.c33 [] (Value.none) (Value.none) (Value.none) (Value.str (Str.ofString "law_on0236_01") 407) (none) (Value.ref 215) (Value.none)) }) ::
  (nat_lit 222, { cls := Value.type "code", data := Data.fields #[Value.str (Str.ofString "_law_corners") 457, Value.str (Str.ofString "_law_corners") 458, Value.str (Str.ofString "/claim/cut.py") 459, Value.int 135 0, Value.int 1 0, Value.int 0 0, Value.int 0 0, Value.int 3 0, Value.ref 217, Value.bool true, Value.int 181 0, Value.ref 218, Value.none, Value.ref 219, Value.ref 220, Value.ref 221, Value.int 461 0, Value.int 135 0, Value.str (Str.ofString "/claim/cut.py") 462] }) ::
  (nat_lit 223, { cls := .type "function", data := .func (fnX (Str.ofString "_law_corners") (Str.ofString "_law_corners") S.a34 S.b34 S.c34 [] (Value.none) (Value.none) (Value.none) (Value.str (Str.ofString "law_on0236_01") 407) (none) (Value.ref 222) (Value.none)) }) ::
  (nat_lit 227, { cls := Value.type "code", data := Data.fields #[Value.str (Str.ofString "_law_two_right") 464, Value.str (Str.ofString "_law_two_right") 465, Value.str (Str.ofString "/claim/cut.py") 466, Value.int 137 0, Value.int 3 0, Value.int 0 0, Value.int 0 0, Value.int 3 0, Value.ref 224, Value.bool true, Value.int 181 0, Value.ref 225, Value.none, Value.none, Value.none, Value.ref 226, Value.int 467 0, Value.int 137 0, Value.str (Str.ofString "/claim/cut.py") 468] }) ::
  (nat_lit 228, { cls := .type "function", data := .func (fnX (Str.ofString "_law_two_right") (Str.ofString "_law_two_right") S.a35 S.b35 S.c35 [] (Value.none) (Value.none) (Value.none) (Value.str (Str.ofString "law_on0236_01") 407) (none) (Value.ref 227) (Value.none)) }) ::
  (nat_lit 234, { cls := Value.type "code", data := Data.fields #[Value.str (Str.ofString "_law_mean") 470, Value.str (Str.ofString "_law_mean") 471, Value.str (Str.ofString "/claim/cut.py") 472, Value.int 149 0, Value.int 2 0, Value.int 0 0, Value.int 0 0, Value.int 3 0, Value.ref 229, Value.bool true, Value.int 181 0, Value.ref 230, Value.none, Value.ref 231, Value.ref 232, Value.ref 233, Value.int 480 0, Value.int 149 0, Value.str (Str.ofString "/claim/cut.py") 481] }) ::
  (nat_lit 235, { cls := .type "function", data := .func (fnX (Str.ofString "_law_mean") (Str.ofString "_law_mean") S.a36 S.b36 S.c36 [] (Value.none) (Value.none) (Value.none) (Value.str (Str.ofString "law_on0236_01") 407) (none) (Value.ref 234) (Value.none)) }) ::
  (nat_lit 239, { cls := Value.type "code", data := Data.fields #[Value.str (Str.ofString "_law_halved") 483, Value.str (Str.ofString "_law_halved") 484, Value.str (Str.ofString "/claim/cut.py") 485, Value.int 154 0, Value.int 1 0, Value.int 0 0, Value.int 0 0, Value.int 3 0, Value.ref 236, Value.bool true, Value.int 181 0, Value.ref 237, Value.none, Value.none, Value.none, Value.ref 238, Value.int 486 0, Value.int 154 0, Value.str (Str.ofString "/claim/cut.py") 487] }) ::
  (nat_lit 240, { cls := .type "function", data := .func (fnX (Str.ofString "_law_halved") (Str.ofString "_law_halved") S.a37 S.b37 S.c37 [] (Value.none) (Value.none) (Value.none) (Value.str (Str.ofString "law_on0236_01") 407) (none) (Value.ref 239) (Value.none)) }) ::
  (nat_lit 244, { cls := Value.type "code", data := Data.fields #[Value.str (Str.ofString "_law_parts") 489, Value.str (Str.ofString "_law_parts") 490, Value.str (Str.ofString "/claim/cut.py") 491, Value.int 160 0, Value.int 2 0, Value.int 0 0, Value.int 0 0, Value.int 3 0, Value.ref 241, Value.bool true, Value.int 181 0, Value.ref 242, Value.none, Value.none, Value.none, Value.ref 243, Value.int 492 0, Value.int 160 0, Value.str (Str.ofString "/claim/cut.py") 493] }) ::
  (nat_lit 245, { cls := .type "function", data := .func (fnX (Str.ofString "_law_parts") (Str.ofString "_law_parts") S.a38 S.b38 S.c38 [] (Value.none) (Value.none) (Value.none) (Value.str (Str.ofString "law_on0236_01") 407) (none) (Value.ref 244) (Value.none)) }) ::
  (nat_lit 249, { cls := Value.type "code", data := Data.fields #[Value.str (Str.ofString "_law_around") 495, Value.str (Str.ofString "_law_around") 496, Value.str (Str.ofString "/claim/cut.py") 497, Value.int 165 0, Value.int 2 0, Value.int 0 0, Value.int 0 0, Value.int 3 0, Value.ref 246, Value.bool true, Value.int 181 0, Value.ref 247, Value.none, Value.none, Value.none, Value.ref 248, Value.int 498 0, Value.int 165 0, Value.str (Str.ofString "/claim/cut.py") 499] }) ::
  (nat_lit 250, { cls := .type "function", data := .func (fnX (Str.ofString "_law_around") (Str.ofString "_law_around") S.a39 S.b39 S.c39 [] (Value.none) (Value.none) (Value.none) (Value.str (Str.ofString "law_on0236_01") 407) (none) (Value.ref 249) (Value.none)) }) ::
  (nat_lit 254, { cls := Value.type "code", data := Data.fields #[Value.str (Str.ofString "_law_curve_right") 501, Value.str (Str.ofString "_law_curve_right") 502, Value.str (Str.ofString "/claim/cut.py") 503, Value.int 171 0, Value.int 1 0, Value.int 0 0, Value.int 0 0, Value.int 3 0, Value.ref 251, Value.bool true, Value.int 181 0, Value.ref 252, Value.none, Value.none, Value.none, Value.ref 253, Value.int 504 0, Value.int 171 0, Value.str (Str.ofString "/claim/cut.py") 505] }) ::
  (nat_lit 255, { cls := .type "function", data := .func (fnX (Str.ofString "_law_curve_right") (Str.ofString "_law_curve_right") S.a40 S.b40 S.c40 [] (Value.none) (Value.none) (Value.none) (Value.str (Str.ofString "law_on0236_01") 407) (none) (Value.ref 254) (Value.none)) }) ::
  (nat_lit 261, { cls := Value.type "code", data := Data.fields #[Value.str (Str.ofString "_law_area") 507, Value.str (Str.ofString "_law_area") 508, Value.str (Str.ofString "/claim/cut.py") 509, Value.int 187 0, Value.int 1 0, Value.int 0 0, Value.int 0 0, Value.int 3 0, Value.ref 256, Value.bool true, Value.int 181 0, Value.ref 257, Value.none, Value.ref 258, Value.ref 259, Value.ref 260, Value.int 515 0, Value.int 187 0, Value.str (Str.ofString "/claim/cut.py") 516] }) ::
  (nat_lit 262, { cls := .type "function", data := .func (fnX (Str.ofString "_law_area") (Str.ofString "_law_area") S.a41 S.b41 S.c41 [] (Value.none) (Value.none) (Value.none) (Value.str (Str.ofString "law_on0236_01") 407) (none) (Value.ref 261) (Value.none)) }) ::
  (nat_lit 266, { cls := Value.type "code", data := Data.fields #[Value.str (Str.ofString "law") 518, Value.str (Str.ofString "law") 519, Value.str (Str.ofString "/claim/cut.py") 520, Value.int 193 0, Value.int 1 0, Value.int 0 0, Value.int 0 0, Value.int 3 0, Value.ref 263, Value.bool true, Value.int 181 0, Value.ref 264, Value.none, Value.none, Value.none, Value.ref 265, Value.int 521 0, Value.int 193 0, Value.str (Str.ofString "/claim/cut.py") 522] }) ::
  (nat_lit 267, { cls := .type "function", data := .func (fnX (Str.ofString "law") (Str.ofString "law") S.a42 S.b42 S.c42 [] (Value.none) (Value.none) (Value.none) (Value.str (Str.ofString "law_on0236_01") 407) (none) (Value.ref 266) (Value.none)) }) ::
  []
/-- all the objects behind the top -/
noncomputable def hd.objs (P : Params) : List Obj :=
  boot_o_0 P ::
  boot_o_1 P ::
  { cls := Value.none, data := Data.dict #[{ hash := PyData.keyHash P (Str.ofString "type.__subclasses__.Exception.0"), key := Value.str (Str.ofString "type.__subclasses__.Exception.0") 214, val := Value.int 31 0 }, { hash := PyData.keyHash P (Str.ofString "type.__subclasses__.Exception.n"), key := Value.str (Str.ofString "type.__subclasses__.Exception.n") 215, val := Value.int 1 0 }] 2 } ::
  { cls := Value.type "dict", data := Data.dict #[{ hash := PyData.keyHash P (Str.ofString "__name__"), key := Value.str (Str.ofString "__name__") 165, val := Value.str (Str.ofString "law_on0236_01") 407 }, { hash := PyData.keyHash P (Str.ofString "__doc__"), key := Value.str (Str.ofString "__doc__") 166, val := Value.none }, { hash := PyData.keyHash P (Str.ofString "__package__"), key := Value.str (Str.ofString "__package__") 167, val := Value.none }, { hash := PyData.keyHash P (Str.ofString "__loader__"), key := Value.str (Str.ofString "__loader__") 168, val := Value.builtin "__main__.__loader__#\x6fpaque" }, { hash := PyData.keyHash P (Str.ofString "__spec__"), key := Value.str (Str.ofString "__spec__") 169, val := Value.none }, { hash := PyData.keyHash P (Str.ofString "__annotations__"), key := Value.str (Str.ofString "__annotations__") 170, val := Value.ref 6 }, { hash := PyData.keyHash P (Str.ofString "__builtins__"), key := Value.str (Str.ofString "__builtins__") 171, val := Value.ref 4 }, { hash := PyData.keyHash P (Str.ofString "__file__"), key := Value.str (Str.ofString "__file__") 173, val := Value.str (Str.ofString "/claim/cut.py") 172 }, { hash := PyData.keyHash P (Str.ofString "__cached__"), key := Value.str (Str.ofString "__cached__") 174, val := Value.none }, { hash := PyData.keyHash P (Str.ofString "MillError"), key := Value.str (Str.ofString "MillError") 217, val := Value.ref 31 }, { hash := PyData.keyHash P (Str.ofString "NumberFault"), key := Value.str (Str.ofString "NumberFault") 233, val := Value.ref 44 }, { hash := PyData.keyHash P (Str.ofString "common_divisor"), key := Value.str (Str.ofString "common_divisor") 245, val := Value.ref 53 }, { hash := PyData.keyHash P (Str.ofString "fraction"), key := Value.str (Str.ofString "fraction") 255, val := Value.ref 61 }, { hash := PyData.keyHash P (Str.ofString "plus"), key := Value.str (Str.ofString "plus") 263, val := Value.ref 68 }, { hash := PyData.keyHash P (Str.ofString "minus"), key := Value.str (Str.ofString "minus") 271, val := Value.ref 75 }, { hash := PyData.keyHash P (Str.ofString "times"), key := Value.str (Str.ofString "times") 279, val := Value.ref 82 }, { hash := PyData.keyHash P (Str.ofString "sign_of"), key := Value.str (Str.ofString "sign_of") 286, val := Value.ref 89 }, { hash := PyData.keyHash P (Str.ofString "compare"), key := Value.str (Str.ofString "compare") 294, val := Value.ref 96 }, { hash := PyData.keyHash P (Str.ofString "least"), key := Value.str (Str.ofString "least") 303, val := Value.ref 103 }, { hash := PyData.keyHash P (Str.ofString "greatest"), key := Value.str (Str.ofString "greatest") 312, val := Value.ref 110 }, { hash := PyData.keyHash P (Str.ofString "mixed"), key := Value.str (Str.ofString "mixed") 323, val := Value.ref 117 }, { hash := PyData.keyHash P (Str.ofString "steps_of"), key := Value.str (Str.ofString "steps_of") 329, val := Value.ref 122 }, { hash := PyData.keyHash P (Str.ofString "split"), key := Value.str (Str.ofString "split") 335, val := Value.ref 127 }, { hash := PyData.keyHash P (Str.ofString "HALF"), key := Value.str (Str.ofString "HALF") 340, val := Value.ref 128 }, { hash := PyData.keyHash P (Str.ofString "box_of"), key := Value.str (Str.ofString "box_of") 346, val := Value.ref 133 }, { hash := PyData.keyHash P (Str.ofString "joined_boxes"), key := Value.str (Str.ofString "joined_boxes") 354, val := Value.ref 140 }, { hash := PyData.keyHash P (Str.ofString "common_box"), key := Value.str (Str.ofString "common_box") 366, val := Value.ref 147 }, { hash := PyData.keyHash P (Str.ofString "grown_box"), key := Value.str (Str.ofString "grown_box") 374, val := Value.ref 154 }, { hash := PyData.keyHash P (Str.ofString "area_twice"), key := Value.str (Str.ofString "area_twice") 386, val := Value.ref 161 }, { hash := PyData.keyHash P (Str.ofString "point_box"), key := Value.str (Str.ofString "point_box") 392, val := Value.ref 166 }, { hash := PyData.keyHash P (Str.ofString "curve_box"), key := Value.str (Str.ofString "curve_box") 399, val := Value.ref 172 }, { hash := PyData.keyHash P (Str.ofString "reached_box"), key := Value.str (Str.ofString "reached_box") 406, val := Value.ref 178 }, { hash := PyData.keyHash P (Str.ofString "_law_pool"), key := Value.str (Str.ofString "_law_pool") 419, val := Value.ref 185 }, { hash := PyData.keyHash P (Str.ofString "_law_take"), key := Value.str (Str.ofString "_law_take") 428, val := Value.ref 192 }, { hash := PyData.keyHash P (Str.ofString "_law_one"), key := Value.str (Str.ofString "_law_one") 436, val := Value.ref 199 }, { hash := PyData.keyHash P (Str.ofString "_law_contours"), key := Value.str (Str.ofString "_law_contours") 442, val := Value.ref 204 }, { hash := PyData.keyHash P (Str.ofString "_law_is_in"), key := Value.str (Str.ofString "_law_is_in") 450, val := Value.ref 211 }, { hash := PyData.keyHash P (Str.ofString "_law_box_right"), key := Value.str (Str.ofString "_law_box_right") 456, val := Value.ref 216 }, { hash := PyData.keyHash P (Str.ofString "_law_corners"), key := Value.str (Str.ofString "_law_corners") 463, val := Value.ref 223 }, { hash := PyData.keyHash P (Str.ofString "_law_two_right"), key := Value.str (Str.ofString "_law_two_right") 469, val := Value.ref 228 }, { hash := PyData.keyHash P (Str.ofString "_law_mean"), key := Value.str (Str.ofString "_law_mean") 482, val := Value.ref 235 }, { hash := PyData.keyHash P (Str.ofString "_law_halved"), key := Value.str (Str.ofString "_law_halved") 488, val := Value.ref 240 }, { hash := PyData.keyHash P (Str.ofString "_law_parts"), key := Value.str (Str.ofString "_law_parts") 494, val := Value.ref 245 }, { hash := PyData.keyHash P (Str.ofString "_law_around"), key := Value.str (Str.ofString "_law_around") 500, val := Value.ref 250 }, { hash := PyData.keyHash P (Str.ofString "_law_curve_right"), key := Value.str (Str.ofString "_law_curve_right") 506, val := Value.ref 255 }, { hash := PyData.keyHash P (Str.ofString "_law_area"), key := Value.str (Str.ofString "_law_area") 517, val := Value.ref 262 }, { hash := PyData.keyHash P (Str.ofString "law"), key := Value.str (Str.ofString "law") 523, val := Value.ref 267 }] 47 } ::
  boot_o_4 P ::
  boot_o_5 P ::
  boot_o_6 P ::
  boot_o_7 P ::
  boot_o_8 P ::
  boot_o_9 P ::
  boot_o_10 P ::
  { cls := Value.type "tuple", data := Data.seq #[] } ::
  { cls := Value.none, data := Data.fields #[Value.int 2 0, Value.int 0 0, Value.ref 20, Value.int 6 0, Value.int 0 0, Value.ref 40, Value.int 9 0, Value.int 0 0, Value.ref 52, Value.int 14 0, Value.int 0 0, Value.ref 60, Value.int 21 0, Value.int 0 0, Value.ref 67, Value.int 23 0, Value.int 0 0, Value.ref 74, Value.int 25 0, Value.int 0 0, Value.ref 81, Value.int 27 0, Value.int 0 0, Value.ref 88, Value.int 33 0, Value.int 0 0, Value.ref 95, Value.int 35 0, Value.int 0 0, Value.ref 102, Value.int 41 0, Value.int 0 0, Value.ref 109, Value.int 48 0, Value.int 0 0, Value.ref 116, Value.int 50 0, Value.int 0 0, Value.ref 121, Value.int 56 0, Value.int 0 0, Value.ref 126, Value.int 61 0, Value.int 0 0, Value.ref 132, Value.int 67 0, Value.int 0 0, Value.ref 139, Value.int 71 0, Value.int 0 0, Value.ref 146, Value.int 75 0, Value.int 0 0, Value.ref 153, Value.int 77 0, Value.int 0 0, Value.ref 160, Value.int 84 0, Value.int 0 0, Value.ref 165, Value.int 87 0, Value.int 0 0, Value.ref 171, Value.int 95 0, Value.int 0 0, Value.ref 177, Value.int 104 0, Value.int 0 0, Value.ref 184, Value.int 111 0, Value.int 0 0, Value.ref 191, Value.int 118 0, Value.int 0 0, Value.ref 198, Value.int 120 0, Value.int 0 0, Value.ref 203, Value.int 127 0, Value.int 0 0, Value.ref 210, Value.int 129 0, Value.int 0 0, Value.ref 215, Value.int 135 0, Value.int 0 0, Value.ref 222, Value.int 137 0, Value.int 0 0, Value.ref 227, Value.int 149 0, Value.int 0 0, Value.ref 234, Value.int 154 0, Value.int 0 0, Value.ref 239, Value.int 160 0, Value.int 0 0, Value.ref 244, Value.int 165 0, Value.int 0 0, Value.ref 249, Value.int 171 0, Value.int 0 0, Value.ref 254, Value.int 187 0, Value.int 0 0, Value.ref 261, Value.int 193 0, Value.int 0 0, Value.ref 266] } ::
  { cls := Value.type "code", data := Data.fields #[Value.str (Str.ofString "<module>") 182, Value.str (Str.ofString "<module>") 183, Value.str (Str.ofString "/claim/cut.py") 184, Value.int 1 0, Value.int 0 0, Value.int 0 0, Value.int 0 0, Value.int 0 0, Value.ref 11, Value.bool false, Value.int 181 0, Value.ref 12, Value.none, Value.none, Value.none, Value.none, Value.int 185 0, Value.int 1 0, Value.str (Str.ofString "/claim/cut.py") 186] } ::
  { cls := Value.type "frame", slots := #[some (Value.ref 13), some (Value.ref 3), some (Value.ref 3), none, some (Value.str (Str.ofString "__main__") 164), none, some (Value.ref 0)] } ::
  { cls := Value.type "tuple", data := Data.seq #[Value.type "Exception"] } ::
  { cls := Value.type "builtin_function_or_method", data := Data.fields #[Value.builtin "type.__prepare__", Value.type "type"] } ::
  { cls := Value.type "dict", data := Data.dict #[{ hash := PyData.keyHash P (Str.ofString "__module__"), key := Value.str (Str.ofString "__module__") 196, val := Value.str (Str.ofString "outlinemill.errors") 187 }, { hash := PyData.keyHash P (Str.ofString "__qualname__"), key := Value.str (Str.ofString "__qualname__") 198, val := Value.str (Str.ofString "MillError") 197 }, { hash := PyData.keyHash P (Str.ofString "__firstlineno__"), key := Value.str (Str.ofString "__firstlineno__") 200, val := Value.int 2 199 }, { hash := PyData.keyHash P (Str.ofString "__init__"), key := Value.str (Str.ofString "__init__") 208, val := Value.ref 28 }, { hash := PyData.keyHash P (Str.ofString "__static_attributes__"), key := Value.str (Str.ofString "__static_attributes__") 210, val := Value.ref 29 }] 5 } ::
  { cls := Value.type "tuple", data := Data.seq #[] } ::
  { cls := Value.none, data := Data.fields #[Value.int 4 0, Value.int 4 0, Value.ref 27] } ::
  { cls := Value.type "code", data := Data.fields #[Value.str (Str.ofString "MillError") 191, Value.str (Str.ofString "MillError") 192, Value.str (Str.ofString "/claim/cut.py") 193, Value.int 2 0, Value.int 0 0, Value.int 0 0, Value.int 0 0, Value.int 0 0, Value.ref 18, Value.bool false, Value.int 181 0, Value.ref 19, Value.none, Value.none, Value.none, Value.none, Value.int 194 0, Value.int 2 0, Value.str (Str.ofString "/claim/cut.py") 195] } ::
  { cls := Value.type "frame", slots := #[some (Value.ref 20), some (Value.ref 3), some (Value.ref 17), none, some (Value.str (Str.ofString "outlinemill.errors") 187), none, some (Value.ref 0)] } ::
  { cls := Value.type "tuple", data := Data.seq #[] } ::
  { cls := Value.none, data := Data.fields #[] } ::
  { cls := Value.type "tuple", data := Data.seq #[Value.str (Str.ofString "self") 204, Value.str (Str.ofString "message") 205] } ::
  { cls := Value.type "tuple", data := Data.seq #[] } ::
  { cls := Value.none, data := Data.func { name := Str.ofString "__init__", qualname := Str.ofString "MillError.__init__", params := S.am, body := .stmts S.bm, scope := S.cm, globals := 0, closure := [], defaults := Value.none, kwdefaults := Value.none } } ::
  { cls := Value.type "code", data := Data.fields #[Value.str (Str.ofString "__init__") 201, Value.str (Str.ofString "MillError.__init__") 202, Value.str (Str.ofString "/claim/cut.py") 203, Value.int 4 0, Value.int 2 0, Value.int 0 0, Value.int 0 0, Value.int 3 0, Value.ref 22, Value.bool true, Value.int 181 0, Value.ref 23, Value.none, Value.ref 24, Value.ref 25, Value.ref 26, Value.int 206 0, Value.int 4 0, Value.str (Str.ofString "/claim/cut.py") 207] } ::
  { cls := Value.type "function", data := Data.func { name := Str.ofString "__init__", qualname := Str.ofString "MillError.__init__", params := S.am, body := .stmts S.bm, scope := S.cm, globals := 3, closure := [], defaults := Value.none, kwdefaults := Value.none, pyModule := Value.str (Str.ofString "outlinemill.errors") 187, code := Value.ref 27 } } ::
  { cls := Value.type "tuple", data := Data.seq #[Value.str (Str.ofString "message") 209] } ::
  { cls := Value.type "dict", data := Data.dict #[{ hash := PyData.keyHash P (Str.ofString "__module__"), key := Value.str (Str.ofString "__module__") 196, val := Value.str (Str.ofString "outlinemill.errors") 187 }, { hash := PyData.keyHash P (Str.ofString "__firstlineno__"), key := Value.str (Str.ofString "__firstlineno__") 200, val := Value.int 2 199 }, { hash := PyData.keyHash P (Str.ofString "__init__"), key := Value.str (Str.ofString "__init__") 208, val := Value.ref 28 }, { hash := PyData.keyHash P (Str.ofString "__static_attributes__"), key := Value.str (Str.ofString "__static_attributes__") 210, val := Value.ref 29 }, { hash := PyData.keyHash P (Str.ofString "__weakref__"), key := Value.str (Str.ofString "__weakref__") 212, val := Value.ref 32 }, { hash := PyData.keyHash P (Str.ofString "__doc__"), key := Value.str (Str.ofString "__doc__") 213, val := Value.none }] 3 } ::
  { cls := Value.type "type", data := Data.cls { name := Str.ofString "MillError", bases := [Value.type "Exception"], mro := [Value.ref 31, Value.type "Exception", Value.type "BaseException", Value.type "object"], ns := 30, qualname := Str.ofString "MillError", subclasses := [Value.ref 44] }, slots := #[some (Value.ref 15), none, some (Value.str (Str.ofString "MillError") 189), some (Value.str (Str.ofString "MillError") 197), some (Value.builtin "Exception.__new__"), some (Value.bool true)] } ::
  { cls := Value.type "getset_descriptor", data := Data.fields #[Value.str (Str.ofString "__weakref__") 211, Value.ref 31, Value.builtin "ExceptionGroup.__weakref__", Value.none] } ::
  { cls := Value.type "super", data := Data.fields #[Value.ref 31, Value.ref 31, Value.ref 31] } ::
  { cls := Value.type "builtin_function_or_method", data := Data.fields #[Value.builtin "object.__init_subclass__", Value.ref 31] } ::
  { cls := Value.type "tuple", data := Data.seq #[Value.ref 31] } ::
  { cls := Value.type "builtin_function_or_method", data := Data.fields #[Value.builtin "type.__prepare__", Value.type "type"] } ::
  { cls := Value.type "dict", data := Data.dict #[{ hash := PyData.keyHash P (Str.ofString "__module__"), key := Value.str (Str.ofString "__module__") 225, val := Value.str (Str.ofString "outlinemill.errors") 187 }, { hash := PyData.keyHash P (Str.ofString "__qualname__"), key := Value.str (Str.ofString "__qualname__") 227, val := Value.str (Str.ofString "NumberFault") 226 }, { hash := PyData.keyHash P (Str.ofString "__firstlineno__"), key := Value.str (Str.ofString "__firstlineno__") 229, val := Value.int 6 228 }, { hash := PyData.keyHash P (Str.ofString "__static_attributes__"), key := Value.str (Str.ofString "__static_attributes__") 230, val := Value.ref 42 }] 4 } ::
  { cls := Value.type "tuple", data := Data.seq #[] } ::
  { cls := Value.none, data := Data.fields #[] } ::
  { cls := Value.type "code", data := Data.fields #[Value.str (Str.ofString "NumberFault") 220, Value.str (Str.ofString "NumberFault") 221, Value.str (Str.ofString "/claim/cut.py") 222, Value.int 6 0, Value.int 0 0, Value.int 0 0, Value.int 0 0, Value.int 0 0, Value.ref 38, Value.bool false, Value.int 181 0, Value.ref 39, Value.none, Value.none, Value.none, Value.none, Value.int 223 0, Value.int 6 0, Value.str (Str.ofString "/claim/cut.py") 224] } ::
  { cls := Value.type "frame", slots := #[some (Value.ref 40), some (Value.ref 3), some (Value.ref 37), none, some (Value.str (Str.ofString "outlinemill.errors") 187), none, some (Value.ref 0)] } ::
  { cls := Value.type "tuple", data := Data.seq #[] } ::
  { cls := Value.type "dict", data := Data.dict #[{ hash := PyData.keyHash P (Str.ofString "__module__"), key := Value.str (Str.ofString "__module__") 225, val := Value.str (Str.ofString "outlinemill.errors") 187 }, { hash := PyData.keyHash P (Str.ofString "__firstlineno__"), key := Value.str (Str.ofString "__firstlineno__") 229, val := Value.int 6 228 }, { hash := PyData.keyHash P (Str.ofString "__static_attributes__"), key := Value.str (Str.ofString "__static_attributes__") 230, val := Value.ref 42 }, { hash := PyData.keyHash P (Str.ofString "__doc__"), key := Value.str (Str.ofString "__doc__") 231, val := Value.none }] 2 } ::
  { cls := Value.type "type", data := Data.cls { name := Str.ofString "NumberFault", bases := [Value.ref 31], mro := [Value.ref 44, Value.ref 31, Value.type "Exception", Value.type "BaseException", Value.type "object"], ns := 43, qualname := Str.ofString "NumberFault" }, slots := #[some (Value.ref 35), none, some (Value.str (Str.ofString "NumberFault") 218), some (Value.str (Str.ofString "NumberFault") 226), some (Value.builtin "Exception.__new__"), some (Value.bool true)] } ::
  { cls := Value.type "super", data := Data.fields #[Value.ref 44, Value.ref 44, Value.ref 44] } ::
  { cls := Value.type "builtin_function_or_method", data := Data.fields #[Value.builtin "object.__init_subclass__", Value.ref 44] } ::
  { cls := Value.type "tuple", data := Data.seq #[] } ::
  { cls := Value.none, data := Data.fields #[] } ::
  { cls := Value.type "tuple", data := Data.seq #[Value.str (Str.ofString "one") 239, Value.str (Str.ofString "other") 240, Value.str (Str.ofString "first") 241, Value.str (Str.ofString "second") 242] } ::
  { cls := Value.type "tuple", data := Data.seq #[] } ::
  { cls := Value.none, dict := none, data := .func { name := Str.ofString "common_divisor", qualname := Str.ofString "common_divisor", params := S.a4, body := .stmts S.b4, scope := S.c4, globals := 0, closure := [], defaults := Value.none, kwdefaults := Value.none, doc := Value.none, pyModule := Value.none, annotations := none, code := Value.none, closureTuple := Value.none, builtins := 0 }, slots := #[] } ::
  { cls := Value.type "code", data := Data.fields #[Value.str (Str.ofString "common_divisor") 236, Value.str (Str.ofString "common_divisor") 237, Value.str (Str.ofString "/claim/cut.py") 238, Value.int 9 0, Value.int 2 0, Value.int 0 0, Value.int 0 0, Value.int 3 0, Value.ref 47, Value.bool true, Value.int 181 0, Value.ref 48, Value.none, Value.ref 49, Value.ref 50, Value.ref 51, Value.int 243 0, Value.int 9 0, Value.str (Str.ofString "/claim/cut.py") 244] } ::
  { cls := .type "function", data := .func (fnX (Str.ofString "common_divisor") (Str.ofString "common_divisor") S.a4 S.b4 S.c4 [] (Value.none) (Value.none) (Value.none) (Value.str (Str.ofString "outlinemill.exact") 234) (none) (Value.ref 52) (Value.none)) } ::
  { cls := Value.type "tuple", data := Data.seq #[Value.int 1 246] } ::
  { cls := Value.type "tuple", data := Data.seq #[] } ::
  { cls := Value.none, data := Data.fields #[] } ::
  { cls := Value.type "tuple", data := Data.seq #[Value.str (Str.ofString "top") 250, Value.str (Str.ofString "bottom") 251, Value.str (Str.ofString "common") 252] } ::
  { cls := Value.type "tuple", data := Data.seq #[] } ::
  { cls := Value.none, dict := none, data := .func { name := Str.ofString "fraction", qualname := Str.ofString "fraction", params := S.a5, body := .stmts S.b5, scope := S.c5, globals := 0, closure := [], defaults := Value.none, kwdefaults := Value.none, doc := Value.none, pyModule := Value.none, annotations := none, code := Value.none, closureTuple := Value.none, builtins := 0 }, slots := #[] } ::
  { cls := Value.type "code", data := Data.fields #[Value.str (Str.ofString "fraction") 247, Value.str (Str.ofString "fraction") 248, Value.str (Str.ofString "/claim/cut.py") 249, Value.int 14 0, Value.int 2 0, Value.int 0 0, Value.int 0 0, Value.int 3 0, Value.ref 55, Value.bool true, Value.int 181 0, Value.ref 56, Value.none, Value.ref 57, Value.ref 58, Value.ref 59, Value.int 253 0, Value.int 14 0, Value.str (Str.ofString "/claim/cut.py") 254] } ::
  { cls := .type "function", data := .func (fnX (Str.ofString "fraction") (Str.ofString "fraction") S.a5 S.b5 S.c5 [] (Value.ref 54) (Value.none) (Value.none) (Value.str (Str.ofString "outlinemill.exact") 234) (none) (Value.ref 60) (Value.none)) } ::
  { cls := Value.type "tuple", data := Data.seq #[] } ::
  { cls := Value.none, data := Data.fields #[] } ::
  { cls := Value.type "tuple", data := Data.seq #[Value.str (Str.ofString "a") 259, Value.str (Str.ofString "b") 260] } ::
  { cls := Value.type "tuple", data := Data.seq #[] } ::
  { cls := Value.none, dict := none, data := .func { name := Str.ofString "plus", qualname := Str.ofString "plus", params := S.a6, body := .stmts S.b6, scope := S.c6, globals := 0, closure := [], defaults := Value.none, kwdefaults := Value.none, doc := Value.none, pyModule := Value.none, annotations := none, code := Value.none, closureTuple := Value.none, builtins := 0 }, slots := #[] } ::
  { cls := Value.type "code", data := Data.fields #[Value.str (Str.ofString "plus") 256, Value.str (Str.ofString "plus") 257, Value.str (Str.ofString "/claim/cut.py") 258, Value.int 21 0, Value.int 2 0, Value.int 0 0, Value.int 0 0, Value.int 3 0, Value.ref 62, Value.bool true, Value.int 181 0, Value.ref 63, Value.none, Value.ref 64, Value.ref 65, Value.ref 66, Value.int 261 0, Value.int 21 0, Value.str (Str.ofString "/claim/cut.py") 262] } ::
  { cls := .type "function", data := .func (fnX (Str.ofString "plus") (Str.ofString "plus") S.a6 S.b6 S.c6 [] (Value.none) (Value.none) (Value.none) (Value.str (Str.ofString "outlinemill.exact") 234) (none) (Value.ref 67) (Value.none)) } ::
  { cls := Value.type "tuple", data := Data.seq #[] } ::
  { cls := Value.none, data := Data.fields #[] } ::
  { cls := Value.type "tuple", data := Data.seq #[Value.str (Str.ofString "a") 267, Value.str (Str.ofString "b") 268] } ::
  { cls := Value.type "tuple", data := Data.seq #[] } ::
  { cls := Value.none, dict := none, data := .func { name := Str.ofString "minus", qualname := Str.ofString "minus", params := S.a7, body := .stmts S.b7, scope := S.c7, globals := 0, closure := [], defaults := Value.none, kwdefaults := Value.none, doc := Value.none, pyModule := Value.none, annotations := none, code := Value.none, closureTuple := Value.none, builtins := 0 }, slots := #[] } ::
  { cls := Value.type "code", data := Data.fields #[Value.str (Str.ofString "minus") 264, Value.str (Str.ofString "minus") 265, Value.str (Str.ofString "/claim/cut.py") 266, Value.int 23 0, Value.int 2 0, Value.int 0 0, Value.int 0 0, Value.int 3 0, Value.ref 69, Value.bool true, Value.int 181 0, Value.ref 70, Value.none, Value.ref 71, Value.ref 72, Value.ref 73, Value.int 269 0, Value.int 23 0, Value.str (Str.ofString "/claim/cut.py") 270] } ::
  { cls := .type "function", data := .func (fnX (Str.ofString "minus") (Str.ofString "minus") S.a7 S.b7 S.c7 [] (Value.none) (Value.none) (Value.none) (Value.str (Str.ofString "outlinemill.exact") 234) (none) (Value.ref 74) (Value.none)) } ::
  { cls := Value.type "tuple", data := Data.seq #[] } ::
  { cls := Value.none, data := Data.fields #[] } ::
  { cls := Value.type "tuple", data := Data.seq #[Value.str (Str.ofString "a") 275, Value.str (Str.ofString "b") 276] } ::
  { cls := Value.type "tuple", data := Data.seq #[] } ::
  { cls := Value.none, dict := none, data := .func { name := Str.ofString "times", qualname := Str.ofString "times", params := S.a8, body := .stmts S.b8, scope := S.c8, globals := 0, closure := [], defaults := Value.none, kwdefaults := Value.none, doc := Value.none, pyModule := Value.none, annotations := none, code := Value.none, closureTuple := Value.none, builtins := 0 }, slots := #[] } ::
  { cls := Value.type "code", data := Data.fields #[Value.str (Str.ofString "times") 272, Value.str (Str.ofString "times") 273, Value.str (Str.ofString "/claim/cut.py") 274, Value.int 25 0, Value.int 2 0, Value.int 0 0, Value.int 0 0, Value.int 3 0, Value.ref 76, Value.bool true, Value.int 181 0, Value.ref 77, Value.none, Value.ref 78, Value.ref 79, Value.ref 80, Value.int 277 0, Value.int 25 0, Value.str (Str.ofString "/claim/cut.py") 278] } ::
  { cls := .type "function", data := .func (fnX (Str.ofString "times") (Str.ofString "times") S.a8 S.b8 S.c8 [] (Value.none) (Value.none) (Value.none) (Value.str (Str.ofString "outlinemill.exact") 234) (none) (Value.ref 81) (Value.none)) } ::
  { cls := Value.type "tuple", data := Data.seq #[] } ::
  { cls := Value.none, data := Data.fields #[] } ::
  { cls := Value.type "tuple", data := Data.seq #[Value.str (Str.ofString "a") 283] } ::
  { cls := Value.type "tuple", data := Data.seq #[] } ::
  { cls := Value.none, dict := none, data := .func { name := Str.ofString "sign_of", qualname := Str.ofString "sign_of", params := S.a9, body := .stmts S.b9, scope := S.c9, globals := 0, closure := [], defaults := Value.none, kwdefaults := Value.none, doc := Value.none, pyModule := Value.none, annotations := none, code := Value.none, closureTuple := Value.none, builtins := 0 }, slots := #[] } ::
  { cls := Value.type "code", data := Data.fields #[Value.str (Str.ofString "sign_of") 280, Value.str (Str.ofString "sign_of") 281, Value.str (Str.ofString "/claim/cut.py") 282, Value.int 27 0, Value.int 1 0, Value.int 0 0, Value.int 0 0, Value.int 3 0, Value.ref 83, Value.bool true, Value.int 181 0, Value.ref 84, Value.none, Value.ref 85, Value.ref 86, Value.ref 87, Value.int 284 0, Value.int 27 0, Value.str (Str.ofString "/claim/cut.py") 285] } ::
  { cls := .type "function", data := .func (fnX (Str.ofString "sign_of") (Str.ofString "sign_of") S.a9 S.b9 S.c9 [] (Value.none) (Value.none) (Value.none) (Value.str (Str.ofString "outlinemill.exact") 234) (none) (Value.ref 88) (Value.none)) } ::
  { cls := Value.type "tuple", data := Data.seq #[] } ::
  { cls := Value.none, data := Data.fields #[] } ::
  { cls := Value.type "tuple", data := Data.seq #[Value.str (Str.ofString "a") 290, Value.str (Str.ofString "b") 291] } ::
  { cls := Value.type "tuple", data := Data.seq #[] } ::
  { cls := Value.none, dict := none, data := .func { name := Str.ofString "compare", qualname := Str.ofString "compare", params := S.a10, body := .stmts S.b10, scope := S.c10, globals := 0, closure := [], defaults := Value.none, kwdefaults := Value.none, doc := Value.none, pyModule := Value.none, annotations := none, code := Value.none, closureTuple := Value.none, builtins := 0 }, slots := #[] } ::
  { cls := Value.type "code", data := Data.fields #[Value.str (Str.ofString "compare") 287, Value.str (Str.ofString "compare") 288, Value.str (Str.ofString "/claim/cut.py") 289, Value.int 33 0, Value.int 2 0, Value.int 0 0, Value.int 0 0, Value.int 3 0, Value.ref 90, Value.bool true, Value.int 181 0, Value.ref 91, Value.none, Value.ref 92, Value.ref 93, Value.ref 94, Value.int 292 0, Value.int 33 0, Value.str (Str.ofString "/claim/cut.py") 293] } ::
  { cls := .type "function", data := .func (fnX (Str.ofString "compare") (Str.ofString "compare") S.a10 S.b10 S.c10 [] (Value.none) (Value.none) (Value.none) (Value.str (Str.ofString "outlinemill.exact") 234) (none) (Value.ref 95) (Value.none)) } ::
  { cls := Value.type "tuple", data := Data.seq #[] } ::
  { cls := Value.none, data := Data.fields #[] } ::
  { cls := Value.type "tuple", data := Data.seq #[Value.str (Str.ofString "some") 298, Value.str (Str.ofString "found") 299, Value.str (Str.ofString "one") 300] } ::
  { cls := Value.type "tuple", data := Data.seq #[] } ::
  { cls := Value.none, dict := none, data := .func { name := Str.ofString "least", qualname := Str.ofString "least", params := S.a11, body := .stmts S.b11, scope := S.c11, globals := 0, closure := [], defaults := Value.none, kwdefaults := Value.none, doc := Value.none, pyModule := Value.none, annotations := none, code := Value.none, closureTuple := Value.none, builtins := 0 }, slots := #[] } ::
  { cls := Value.type "code", data := Data.fields #[Value.str (Str.ofString "least") 295, Value.str (Str.ofString "least") 296, Value.str (Str.ofString "/claim/cut.py") 297, Value.int 35 0, Value.int 1 0, Value.int 0 0, Value.int 0 0, Value.int 3 0, Value.ref 97, Value.bool true, Value.int 181 0, Value.ref 98, Value.none, Value.ref 99, Value.ref 100, Value.ref 101, Value.int 301 0, Value.int 35 0, Value.str (Str.ofString "/claim/cut.py") 302] } ::
  { cls := .type "function", data := .func (fnX (Str.ofString "least") (Str.ofString "least") S.a11 S.b11 S.c11 [] (Value.none) (Value.none) (Value.none) (Value.str (Str.ofString "outlinemill.exact") 234) (none) (Value.ref 102) (Value.none)) } ::
  { cls := Value.type "tuple", data := Data.seq #[] } ::
  { cls := Value.none, data := Data.fields #[] } ::
  { cls := Value.type "tuple", data := Data.seq #[Value.str (Str.ofString "some") 307, Value.str (Str.ofString "found") 308, Value.str (Str.ofString "one") 309] } ::
  { cls := Value.type "tuple", data := Data.seq #[] } ::
  { cls := Value.none, dict := none, data := .func { name := Str.ofString "greatest", qualname := Str.ofString "greatest", params := S.a12, body := .stmts S.b12, scope := S.c12, globals := 0, closure := [], defaults := Value.none, kwdefaults := Value.none, doc := Value.none, pyModule := Value.none, annotations := none, code := Value.none, closureTuple := Value.none, builtins := 0 }, slots := #[] } ::
  { cls := Value.type "code", data := Data.fields #[Value.str (Str.ofString "greatest") 304, Value.str (Str.ofString "greatest") 305, Value.str (Str.ofString "/claim/cut.py") 306, Value.int 41 0, Value.int 1 0, Value.int 0 0, Value.int 0 0, Value.int 3 0, Value.ref 104, Value.bool true, Value.int 181 0, Value.ref 105, Value.none, Value.ref 106, Value.ref 107, Value.ref 108, Value.int 310 0, Value.int 41 0, Value.str (Str.ofString "/claim/cut.py") 311] } ::
  { cls := .type "function", data := .func (fnX (Str.ofString "greatest") (Str.ofString "greatest") S.a12 S.b12 S.c12 [] (Value.none) (Value.none) (Value.none) (Value.str (Str.ofString "outlinemill.exact") 234) (none) (Value.ref 109) (Value.none)) } ::
  { cls := Value.type "tuple", data := Data.seq #[] } ::
  { cls := Value.none, data := Data.fields #[] } ::
  { cls := Value.type "tuple", data := Data.seq #[Value.str (Str.ofString "p") 318, Value.str (Str.ofString "q") 319, Value.str (Str.ofString "t") 320] } ::
  { cls := Value.type "tuple", data := Data.seq #[] } ::
  { cls := Value.none, dict := none, data := .func { name := Str.ofString "mixed", qualname := Str.ofString "mixed", params := S.a14, body := .stmts S.b14, scope := S.c14, globals := 0, closure := [], defaults := Value.none, kwdefaults := Value.none, doc := Value.none, pyModule := Value.none, annotations := none, code := Value.none, closureTuple := Value.none, builtins := 0 }, slots := #[] } ::
  { cls := Value.type "code", data := Data.fields #[Value.str (Str.ofString "mixed") 315, Value.str (Str.ofString "mixed") 316, Value.str (Str.ofString "/claim/cut.py") 317, Value.int 48 0, Value.int 3 0, Value.int 0 0, Value.int 0 0, Value.int 3 0, Value.ref 111, Value.bool true, Value.int 181 0, Value.ref 112, Value.none, Value.ref 113, Value.ref 114, Value.ref 115, Value.int 321 0, Value.int 48 0, Value.str (Str.ofString "/claim/cut.py") 322] } ::
  { cls := .type "function", data := .func (fnX (Str.ofString "mixed") (Str.ofString "mixed") S.a14 S.b14 S.c14 [] (Value.none) (Value.none) (Value.none) (Value.str (Str.ofString "outlinemill.curves") 313) (none) (Value.ref 116) (Value.none)) } ::
  { cls := Value.type "tuple", data := Data.seq #[] } ::
  { cls := Value.none, data := Data.fields #[] } ::
  { cls := Value.none, dict := none, data := .func { name := Str.ofString "steps_of", qualname := Str.ofString "steps_of", params := S.a15, body := .stmts S.b15, scope := S.c15, globals := 0, closure := [], defaults := Value.none, kwdefaults := Value.none, doc := Value.none, pyModule := Value.none, annotations := none, code := Value.none, closureTuple := Value.none, builtins := 0 }, slots := #[] } ::
  { cls := Value.type "code", data := Data.fields #[Value.str (Str.ofString "steps_of") 324, Value.str (Str.ofString "steps_of") 325, Value.str (Str.ofString "/claim/cut.py") 326, Value.int 50 0, Value.int 2 0, Value.int 0 0, Value.int 0 0, Value.int 3 0, Value.ref 118, Value.bool true, Value.int 181 0, Value.ref 119, Value.none, Value.none, Value.none, Value.ref 120, Value.int 327 0, Value.int 50 0, Value.str (Str.ofString "/claim/cut.py") 328] } ::
  { cls := .type "function", data := .func (fnX (Str.ofString "steps_of") (Str.ofString "steps_of") S.a15 S.b15 S.c15 [] (Value.none) (Value.none) (Value.none) (Value.str (Str.ofString "outlinemill.curves") 313) (none) (Value.ref 121) (Value.none)) } ::
  { cls := Value.type "tuple", data := Data.seq #[] } ::
  { cls := Value.none, data := Data.fields #[] } ::
  { cls := Value.none, dict := none, data := .func { name := Str.ofString "split", qualname := Str.ofString "split", params := S.a16, body := .stmts S.b16, scope := S.c16, globals := 0, closure := [], defaults := Value.none, kwdefaults := Value.none, doc := Value.none, pyModule := Value.none, annotations := none, code := Value.none, closureTuple := Value.none, builtins := 0 }, slots := #[] } ::
  { cls := Value.type "code", data := Data.fields #[Value.str (Str.ofString "split") 330, Value.str (Str.ofString "split") 331, Value.str (Str.ofString "/claim/cut.py") 332, Value.int 56 0, Value.int 2 0, Value.int 0 0, Value.int 0 0, Value.int 3 0, Value.ref 123, Value.bool true, Value.int 181 0, Value.ref 124, Value.none, Value.none, Value.none, Value.ref 125, Value.int 333 0, Value.int 56 0, Value.str (Str.ofString "/claim/cut.py") 334] } ::
  { cls := .type "function", data := .func (fnX (Str.ofString "split") (Str.ofString "split") S.a16 S.b16 S.c16 [] (Value.none) (Value.none) (Value.none) (Value.str (Str.ofString "outlinemill.curves") 313) (none) (Value.ref 126) (Value.none)) } ::
  { cls := Value.type "tuple", data := Data.seq #[Value.int 1 338, Value.int 2 339] } ::
  { cls := Value.type "tuple", data := Data.seq #[] } ::
  { cls := Value.none, data := Data.fields #[] } ::
  { cls := Value.none, dict := none, data := .func { name := Str.ofString "box_of", qualname := Str.ofString "box_of", params := S.a19, body := .stmts S.b19, scope := S.c19, globals := 0, closure := [], defaults := Value.none, kwdefaults := Value.none, doc := Value.none, pyModule := Value.none, annotations := none, code := Value.none, closureTuple := Value.none, builtins := 0 }, slots := #[] } ::
  { cls := Value.type "code", data := Data.fields #[Value.str (Str.ofString "box_of") 341, Value.str (Str.ofString "box_of") 342, Value.str (Str.ofString "/claim/cut.py") 343, Value.int 61 0, Value.int 1 0, Value.int 0 0, Value.int 0 0, Value.int 3 0, Value.ref 129, Value.bool true, Value.int 181 0, Value.ref 130, Value.none, Value.none, Value.none, Value.ref 131, Value.int 344 0, Value.int 61 0, Value.str (Str.ofString "/claim/cut.py") 345] } ::
  { cls := .type "function", data := .func (fnX (Str.ofString "box_of") (Str.ofString "box_of") S.a19 S.b19 S.c19 [] (Value.none) (Value.none) (Value.none) (Value.str (Str.ofString "outlinemill.bounds") 336) (none) (Value.ref 132) (Value.none)) } ::
  { cls := Value.type "tuple", data := Data.seq #[] } ::
  { cls := Value.none, data := Data.fields #[] } ::
  { cls := Value.type "tuple", data := Data.seq #[Value.str (Str.ofString "one") 350, Value.str (Str.ofString "other") 351] } ::
  { cls := Value.type "tuple", data := Data.seq #[] } ::
  { cls := Value.none, dict := none, data := .func { name := Str.ofString "joined_boxes", qualname := Str.ofString "joined_boxes", params := S.a20, body := .stmts S.b20, scope := S.c20, globals := 0, closure := [], defaults := Value.none, kwdefaults := Value.none, doc := Value.none, pyModule := Value.none, annotations := none, code := Value.none, closureTuple := Value.none, builtins := 0 }, slots := #[] } ::
  { cls := Value.type "code", data := Data.fields #[Value.str (Str.ofString "joined_boxes") 347, Value.str (Str.ofString "joined_boxes") 348, Value.str (Str.ofString "/claim/cut.py") 349, Value.int 67 0, Value.int 2 0, Value.int 0 0, Value.int 0 0, Value.int 3 0, Value.ref 134, Value.bool true, Value.int 181 0, Value.ref 135, Value.none, Value.ref 136, Value.ref 137, Value.ref 138, Value.int 352 0, Value.int 67 0, Value.str (Str.ofString "/claim/cut.py") 353] } ::
  { cls := .type "function", data := .func (fnX (Str.ofString "joined_boxes") (Str.ofString "joined_boxes") S.a20 S.b20 S.c20 [] (Value.none) (Value.none) (Value.none) (Value.str (Str.ofString "outlinemill.bounds") 336) (none) (Value.ref 139) (Value.none)) } ::
  { cls := Value.type "tuple", data := Data.seq #[] } ::
  { cls := Value.none, data := Data.fields #[] } ::
  { cls := Value.type "tuple", data := Data.seq #[Value.str (Str.ofString "one") 358, Value.str (Str.ofString "other") 359, Value.str (Str.ofString "left") 360, Value.str (Str.ofString "top") 361, Value.str (Str.ofString "right") 362, Value.str (Str.ofString "bottom") 363] } ::
  { cls := Value.type "tuple", data := Data.seq #[] } ::
  { cls := Value.none, dict := none, data := .func { name := Str.ofString "common_box", qualname := Str.ofString "common_box", params := S.a21, body := .stmts S.b21, scope := S.c21, globals := 0, closure := [], defaults := Value.none, kwdefaults := Value.none, doc := Value.none, pyModule := Value.none, annotations := none, code := Value.none, closureTuple := Value.none, builtins := 0 }, slots := #[] } ::
  { cls := Value.type "code", data := Data.fields #[Value.str (Str.ofString "common_box") 355, Value.str (Str.ofString "common_box") 356, Value.str (Str.ofString "/claim/cut.py") 357, Value.int 71 0, Value.int 2 0, Value.int 0 0, Value.int 0 0, Value.int 3 0, Value.ref 141, Value.bool true, Value.int 181 0, Value.ref 142, Value.none, Value.ref 143, Value.ref 144, Value.ref 145, Value.int 364 0, Value.int 71 0, Value.str (Str.ofString "/claim/cut.py") 365] } ::
  { cls := .type "function", data := .func (fnX (Str.ofString "common_box") (Str.ofString "common_box") S.a21 S.b21 S.c21 [] (Value.none) (Value.none) (Value.none) (Value.str (Str.ofString "outlinemill.bounds") 336) (none) (Value.ref 146) (Value.none)) } ::
  { cls := Value.type "tuple", data := Data.seq #[] } ::
  { cls := Value.none, data := Data.fields #[] } ::
  { cls := Value.type "tuple", data := Data.seq #[Value.str (Str.ofString "box") 370, Value.str (Str.ofString "many") 371] } ::
  { cls := Value.type "tuple", data := Data.seq #[] } ::
  { cls := Value.none, dict := none, data := .func { name := Str.ofString "grown_box", qualname := Str.ofString "grown_box", params := S.a22, body := .stmts S.b22, scope := S.c22, globals := 0, closure := [], defaults := Value.none, kwdefaults := Value.none, doc := Value.none, pyModule := Value.none, annotations := none, code := Value.none, closureTuple := Value.none, builtins := 0 }, slots := #[] } ::
  { cls := Value.type "code", data := Data.fields #[Value.str (Str.ofString "grown_box") 367, Value.str (Str.ofString "grown_box") 368, Value.str (Str.ofString "/claim/cut.py") 369, Value.int 75 0, Value.int 2 0, Value.int 0 0, Value.int 0 0, Value.int 3 0, Value.ref 148, Value.bool true, Value.int 181 0, Value.ref 149, Value.none, Value.ref 150, Value.ref 151, Value.ref 152, Value.int 372 0, Value.int 75 0, Value.str (Str.ofString "/claim/cut.py") 373] } ::
  { cls := .type "function", data := .func (fnX (Str.ofString "grown_box") (Str.ofString "grown_box") S.a22 S.b22 S.c22 [] (Value.none) (Value.none) (Value.none) (Value.str (Str.ofString "outlinemill.bounds") 336) (none) (Value.ref 153) (Value.none)) } ::
  { cls := Value.type "tuple", data := Data.seq #[] } ::
  { cls := Value.none, data := Data.fields #[] } ::
  { cls := Value.type "tuple", data := Data.seq #[Value.str (Str.ofString "contour") 378, Value.str (Str.ofString "spots") 379, Value.str (Str.ofString "total") 380, Value.str (Str.ofString "i") 381, Value.str (Str.ofString "one") 382, Value.str (Str.ofString "other") 383] } ::
  { cls := Value.type "tuple", data := Data.seq #[] } ::
  { cls := Value.none, dict := none, data := .func { name := Str.ofString "area_twice", qualname := Str.ofString "area_twice", params := S.a23, body := .stmts S.b23, scope := S.c23, globals := 0, closure := [], defaults := Value.none, kwdefaults := Value.none, doc := Value.none, pyModule := Value.none, annotations := none, code := Value.none, closureTuple := Value.none, builtins := 0 }, slots := #[] } ::
  { cls := Value.type "code", data := Data.fields #[Value.str (Str.ofString "area_twice") 375, Value.str (Str.ofString "area_twice") 376, Value.str (Str.ofString "/claim/cut.py") 377, Value.int 77 0, Value.int 1 0, Value.int 0 0, Value.int 0 0, Value.int 3 0, Value.ref 155, Value.bool true, Value.int 181 0, Value.ref 156, Value.none, Value.ref 157, Value.ref 158, Value.ref 159, Value.int 384 0, Value.int 77 0, Value.str (Str.ofString "/claim/cut.py") 385] } ::
  { cls := .type "function", data := .func (fnX (Str.ofString "area_twice") (Str.ofString "area_twice") S.a23 S.b23 S.c23 [] (Value.none) (Value.none) (Value.none) (Value.str (Str.ofString "outlinemill.bounds") 336) (none) (Value.ref 160) (Value.none)) } ::
  { cls := Value.type "tuple", data := Data.seq #[] } ::
  { cls := Value.none, data := Data.fields #[] } ::
  { cls := Value.none, dict := none, data := .func { name := Str.ofString "point_box", qualname := Str.ofString "point_box", params := S.a24, body := .stmts S.b24, scope := S.c24, globals := 0, closure := [], defaults := Value.none, kwdefaults := Value.none, doc := Value.none, pyModule := Value.none, annotations := none, code := Value.none, closureTuple := Value.none, builtins := 0 }, slots := #[] } ::
  { cls := Value.type "code", data := Data.fields #[Value.str (Str.ofString "point_box") 387, Value.str (Str.ofString "point_box") 388, Value.str (Str.ofString "/claim/cut.py") 389, Value.int 84 0, Value.int 1 0, Value.int 0 0, Value.int 0 0, Value.int 3 0, Value.ref 162, Value.bool true, Value.int 181 0, Value.ref 163, Value.none, Value.none, Value.none, Value.ref 164, Value.int 390 0, Value.int 84 0, Value.str (Str.ofString "/claim/cut.py") 391] } ::
  { cls := .type "function", data := .func (fnX (Str.ofString "point_box") (Str.ofString "point_box") S.a24 S.b24 S.c24 [] (Value.none) (Value.none) (Value.none) (Value.str (Str.ofString "outlinemill.bounds") 336) (none) (Value.ref 165) (Value.none)) } ::
  { cls := Value.type "tuple", data := Data.seq #[Value.int 3 393] } ::
  { cls := Value.type "tuple", data := Data.seq #[] } ::
  { cls := Value.none, data := Data.fields #[] } ::
  { cls := Value.none, dict := none, data := .func { name := Str.ofString "curve_box", qualname := Str.ofString "curve_box", params := S.a25, body := .stmts S.b25, scope := S.c25, globals := 0, closure := [], defaults := Value.none, kwdefaults := Value.none, doc := Value.none, pyModule := Value.none, annotations := none, code := Value.none, closureTuple := Value.none, builtins := 0 }, slots := #[] } ::
  { cls := Value.type "code", data := Data.fields #[Value.str (Str.ofString "curve_box") 394, Value.str (Str.ofString "curve_box") 395, Value.str (Str.ofString "/claim/cut.py") 396, Value.int 87 0, Value.int 2 0, Value.int 0 0, Value.int 0 0, Value.int 3 0, Value.ref 168, Value.bool true, Value.int 181 0, Value.ref 169, Value.none, Value.none, Value.none, Value.ref 170, Value.int 397 0, Value.int 87 0, Value.str (Str.ofString "/claim/cut.py") 398] } ::
  { cls := .type "function", data := .func (fnX (Str.ofString "curve_box") (Str.ofString "curve_box") S.a25 S.b25 S.c25 [] (Value.ref 167) (Value.none) (Value.none) (Value.str (Str.ofString "outlinemill.bounds") 336) (none) (Value.ref 171) (Value.none)) } ::
  { cls := Value.type "tuple", data := Data.seq #[Value.int 3 400] } ::
  { cls := Value.type "tuple", data := Data.seq #[] } ::
  { cls := Value.none, data := Data.fields #[] } ::
  { cls := Value.none, dict := none, data := .func { name := Str.ofString "reached_box", qualname := Str.ofString "reached_box", params := S.a26, body := .stmts S.b26, scope := S.c26, globals := 0, closure := [], defaults := Value.none, kwdefaults := Value.none, doc := Value.none, pyModule := Value.none, annotations := none, code := Value.none, closureTuple := Value.none, builtins := 0 }, slots := #[] } ::
  { cls := Value.type "code", data := Data.fields #[Value.str (Str.ofString "reached_box") 401, Value.str (Str.ofString "reached_box") 402, Value.str (Str.ofString "/claim/cut.py") 403, Value.int 95 0, Value.int 2 0, Value.int 0 0, Value.int 0 0, Value.int 3 0, Value.ref 174, Value.bool true, Value.int 181 0, Value.ref 175, Value.none, Value.none, Value.none, Value.ref 176, Value.int 404 0, Value.int 95 0, Value.str (Str.ofString "/claim/cut.py") 405] } ::
  { cls := .type "function", data := .func (fnX (Str.ofString "reached_box") (Str.ofString "reached_box") S.a26 S.b26 S.c26 [] (Value.ref 173) (Value.none) (Value.none) (Value.str (Str.ofString "outlinemill.bounds") 336) (none) (Value.ref 177) (Value.none)) } ::
  { cls := Value.type "tuple", data := Data.seq #[] } ::
  { cls := Value.none, data := Data.fields #[] } ::
  { cls := Value.type "tuple", data := Data.seq #[Value.str (Str.ofString "script") 412, Value.str (Str.ofString "k") 413, Value.str (Str.ofString "cell") 414, Value.str (Str.ofString "big") 415, Value.str (Str.ofString "stirred") 416] } ::
  { cls := Value.type "tuple", data := Data.seq #[] } ::
  { cls := Value.none, dict := none, data := .func { name := Str.ofString "_law_pool", qualname := Str.ofString "_law_pool", params := S.a28, body := .stmts S.b28, scope := S.c28, globals := 0, closure := [], defaults := Value.none, kwdefaults := Value.none, doc := Value.none, pyModule := Value.none, annotations := none, code := Value.none, closureTuple := Value.none, builtins := 0 }, slots := #[] } ::
  { cls := Value.type "code", data := Data.fields #[Value.str (Str.ofString "_law_pool") 409, Value.str (Str.ofString "_law_pool") 410, Value.str (Str.ofString "/claim/cut.py") 411, Value.int 104 0, Value.int 2 0, Value.int 0 0, Value.int 0 0, Value.int 3 0, Value.ref 179, Value.bool true, Value.int 181 0, Value.ref 180, Value.none, Value.ref 181, Value.ref 182, Value.ref 183, Value.int 417 0, Value.int 104 0, Value.str (Str.ofString "/claim/cut.py") 418] } ::
  { cls := .type "function", data := .func (fnX (Str.ofString "_law_pool") (Str.ofString "_law_pool") S.a28 S.b28 S.c28 [] (Value.none) (Value.none) (Value.none) (Value.str (Str.ofString "law_on0236_01") 407) (none) (Value.ref 184) (Value.none)) } ::
  { cls := Value.type "tuple", data := Data.seq #[] } ::
  { cls := Value.none, data := Data.fields #[] } ::
  { cls := Value.type "tuple", data := Data.seq #[Value.str (Str.ofString "source") 423, Value.str (Str.ofString "top") 424, Value.str (Str.ofString "figure") 425] } ::
  { cls := Value.type "tuple", data := Data.seq #[] } ::
  { cls := Value.none, dict := none, data := .func { name := Str.ofString "_law_take", qualname := Str.ofString "_law_take", params := S.a29, body := .stmts S.b29, scope := S.c29, globals := 0, closure := [], defaults := Value.none, kwdefaults := Value.none, doc := Value.none, pyModule := Value.none, annotations := none, code := Value.none, closureTuple := Value.none, builtins := 0 }, slots := #[] } ::
  { cls := Value.type "code", data := Data.fields #[Value.str (Str.ofString "_law_take") 420, Value.str (Str.ofString "_law_take") 421, Value.str (Str.ofString "/claim/cut.py") 422, Value.int 111 0, Value.int 2 0, Value.int 0 0, Value.int 0 0, Value.int 3 0, Value.ref 186, Value.bool true, Value.int 181 0, Value.ref 187, Value.none, Value.ref 188, Value.ref 189, Value.ref 190, Value.int 426 0, Value.int 111 0, Value.str (Str.ofString "/claim/cut.py") 427] } ::
  { cls := .type "function", data := .func (fnX (Str.ofString "_law_take") (Str.ofString "_law_take") S.a29 S.b29 S.c29 [] (Value.none) (Value.none) (Value.none) (Value.str (Str.ofString "law_on0236_01") 407) (none) (Value.ref 191) (Value.none)) } ::
  { cls := Value.type "tuple", data := Data.seq #[] } ::
  { cls := Value.none, data := Data.fields #[] } ::
  { cls := Value.type "tuple", data := Data.seq #[Value.str (Str.ofString "source") 432, Value.str (Str.ofString "things") 433] } ::
  { cls := Value.type "tuple", data := Data.seq #[] } ::
  { cls := Value.none, dict := none, data := .func { name := Str.ofString "_law_one", qualname := Str.ofString "_law_one", params := S.a30, body := .stmts S.b30, scope := S.c30, globals := 0, closure := [], defaults := Value.none, kwdefaults := Value.none, doc := Value.none, pyModule := Value.none, annotations := none, code := Value.none, closureTuple := Value.none, builtins := 0 }, slots := #[] } ::
  { cls := Value.type "code", data := Data.fields #[Value.str (Str.ofString "_law_one") 429, Value.str (Str.ofString "_law_one") 430, Value.str (Str.ofString "/claim/cut.py") 431, Value.int 118 0, Value.int 2 0, Value.int 0 0, Value.int 0 0, Value.int 3 0, Value.ref 193, Value.bool true, Value.int 181 0, Value.ref 194, Value.none, Value.ref 195, Value.ref 196, Value.ref 197, Value.int 434 0, Value.int 118 0, Value.str (Str.ofString "/claim/cut.py") 435] } ::
  { cls := .type "function", data := .func (fnX (Str.ofString "_law_one") (Str.ofString "_law_one") S.a30 S.b30 S.c30 [] (Value.none) (Value.none) (Value.none) (Value.str (Str.ofString "law_on0236_01") 407) (none) (Value.ref 198) (Value.none)) } ::
  { cls := Value.type "tuple", data := Data.seq #[] } ::
  { cls := Value.none, data := Data.fields #[] } ::
  { cls := Value.none, dict := none, data := .func { name := Str.ofString "_law_contours", qualname := Str.ofString "_law_contours", params := S.a31, body := .stmts S.b31, scope := S.c31, globals := 0, closure := [], defaults := Value.none, kwdefaults := Value.none, doc := Value.none, pyModule := Value.none, annotations := none, code := Value.none, closureTuple := Value.none, builtins := 0 }, slots := #[] } ::
  { cls := Value.type "code", data := Data.fields #[Value.str (Str.ofString "_law_contours") 437, Value.str (Str.ofString "_law_contours") 438, Value.str (Str.ofString "/claim/cut.py") 439, Value.int 120 0, Value.int 2 0, Value.int 0 0, Value.int 0 0, Value.int 3 0, Value.ref 200, Value.bool true, Value.int 181 0, Value.ref 201, Value.none, Value.none, Value.none, Value.ref 202, Value.int 440 0, Value.int 120 0, Value.str (Str.ofString "/claim/cut.py") 441] } ::
  { cls := .type "function", data := .func (fnX (Str.ofString "_law_contours") (Str.ofString "_law_contours") S.a31 S.b31 S.c31 [] (Value.none) (Value.none) (Value.none) (Value.str (Str.ofString "law_on0236_01") 407) (none) (Value.ref 203) (Value.none)) } ::
  { cls := Value.type "tuple", data := Data.seq #[] } ::
  { cls := Value.none, data := Data.fields #[] } ::
  { cls := Value.type "tuple", data := Data.seq #[Value.str (Str.ofString "pair") 446, Value.str (Str.ofString "box") 447] } ::
  { cls := Value.type "tuple", data := Data.seq #[] } ::
  { cls := Value.none, dict := none, data := .func { name := Str.ofString "_law_is_in", qualname := Str.ofString "_law_is_in", params := S.a32, body := .stmts S.b32, scope := S.c32, globals := 0, closure := [], defaults := Value.none, kwdefaults := Value.none, doc := Value.none, pyModule := Value.none, annotations := none, code := Value.none, closureTuple := Value.none, builtins := 0 }, slots := #[] } ::
  { cls := Value.type "code", data := Data.fields #[Value.str (Str.ofString "_law_is_in") 443, Value.str (Str.ofString "_law_is_in") 444, Value.str (Str.ofString "/claim/cut.py") 445, Value.int 127 0, Value.int 2 0, Value.int 0 0, Value.int 0 0, Value.int 3 0, Value.ref 205, Value.bool true, Value.int 181 0, Value.ref 206, Value.none, Value.ref 207, Value.ref 208, Value.ref 209, Value.int 448 0, Value.int 127 0, Value.str (Str.ofString "/claim/cut.py") 449] } ::
  { cls := .type "function", data := .func (fnX (Str.ofString "_law_is_in") (Str.ofString "_law_is_in") S.a32 S.b32 S.c32 [] (Value.none) (Value.none) (Value.none) (Value.str (Str.ofString "law_on0236_01") 407) (none) (Value.ref 210) (Value.none)) } ::
  { cls := Value.type "tuple", data := Data.seq #[] } ::
  { cls := Value.none, data := Data.fields #[] } ::
  { cls := Value.none, dict := none, data := .func { name := Str.ofString "_law_box_right", qualname := Str.ofString "_law_box_right", params := S.a33, body := .stmts S.b33, scope := S.c33, globals := 0, closure := [], defaults := Value.none, kwdefaults := Value.none, doc := Value.none, pyModule := Value.none, annotations := none, code := Value.none, closureTuple := Value.none, builtins := 0 }, slots := #[] } ::
  { cls := Value.type "code", data := Data.fields #[Value.str (Str.ofString "_law_box_right") 451, Value.str (Str.ofString "_law_box_right") 452, Value.str (Str.ofString "/claim/cut.py") 453, Value.int 129 0, Value.int 2 0, Value.int 0 0, Value.int 0 0, Value.int 3 0, Value.ref 212, Value.bool true, Value.int 181 0, Value.ref 213, Value.none, Value.none, Value.none, Value.ref 214, Value.int 454 0, Value.int 129 0, Value.str (Str.ofString "/claim/cut.py") 455] } ::
  { cls := .type "function", data := .func (fnX (Str.ofString "_law_box_right") (Str.ofString "_law_box_right") S.a33 S.b33 S.c33 [] (Value.none) (Value.none) (Value.none) (Value.str (Str.ofString "law_on0236_01") 407) (none) (Value.ref 215) (Value.none)) } ::
  { cls := Value.type "tuple", data := Data.seq #[] } ::
  { cls := Value.none, data := Data.fields #[] } ::
  { cls := Value.type "tuple", data := Data.seq #[Value.str (Str.ofString "box") 460] } ::
  { cls := Value.type "tuple", data := Data.seq #[] } ::
  { cls := Value.none, dict := none, data := .func { name := Str.ofString "_law_corners", qualname := Str.ofString "_law_corners", params := S.a34, body := .stmts S.b34, scope := S.c34, globals := 0, closure := [], defaults := Value.none, kwdefaults := Value.none, doc := Value.none, pyModule := Value.none, annotations := none, code := Value.none, closureTuple := Value.none, builtins := 0 }, slots := #[] } ::
  { cls := Value.type "code", data := Data.fields #[Value.str (Str.ofString "_law_corners") 457, Value.str (Str.ofString "_law_corners") 458, Value.str (Str.ofString "/claim/cut.py") 459, Value.int 135 0, Value.int 1 0, Value.int 0 0, Value.int 0 0, Value.int 3 0, Value.ref 217, Value.bool true, Value.int 181 0, Value.ref 218, Value.none, Value.ref 219, Value.ref 220, Value.ref 221, Value.int 461 0, Value.int 135 0, Value.str (Str.ofString "/claim/cut.py") 462] } ::
  { cls := .type "function", data := .func (fnX (Str.ofString "_law_corners") (Str.ofString "_law_corners") S.a34 S.b34 S.c34 [] (Value.none) (Value.none) (Value.none) (Value.str (Str.ofString "law_on0236_01") 407) (none) (Value.ref 222) (Value.none)) } ::
  { cls := Value.type "tuple", data := Data.seq #[] } ::
  { cls := Value.none, data := Data.fields #[] } ::
  { cls := Value.none, dict := none, data := .func { name := Str.ofString "_law_two_right", qualname := Str.ofString "_law_two_right", params := S.a35, body := .stmts S.b35, scope := S.c35, globals := 0, closure := [], defaults := Value.none, kwdefaults := Value.none, doc := Value.none, pyModule := Value.none, annotations := none, code := Value.none, closureTuple := Value.none, builtins := 0 }, slots := #[] } ::
  { cls := Value.type "code", data := Data.fields #[Value.str (Str.ofString "_law_two_right") 464, Value.str (Str.ofString "_law_two_right") 465, Value.str (Str.ofString "/claim/cut.py") 466, Value.int 137 0, Value.int 3 0, Value.int 0 0, Value.int 0 0, Value.int 3 0, Value.ref 224, Value.bool true, Value.int 181 0, Value.ref 225, Value.none, Value.none, Value.none, Value.ref 226, Value.int 467 0, Value.int 137 0, Value.str (Str.ofString "/claim/cut.py") 468] } ::
  { cls := .type "function", data := .func (fnX (Str.ofString "_law_two_right") (Str.ofString "_law_two_right") S.a35 S.b35 S.c35 [] (Value.none) (Value.none) (Value.none) (Value.str (Str.ofString "law_on0236_01") 407) (none) (Value.ref 227) (Value.none)) } ::
  { cls := Value.type "tuple", data := Data.seq #[] } ::
  { cls := Value.none, data := Data.fields #[] } ::
  { cls := Value.type "tuple", data := Data.seq #[Value.str (Str.ofString "one") 473, Value.str (Str.ofString "other") 474, Value.str (Str.ofString "found") 475, Value.str (Str.ofString "top") 476, Value.str (Str.ofString "bottom") 477, Value.str (Str.ofString "high") 478, Value.str (Str.ofString "low") 479] } ::
  { cls := Value.type "tuple", data := Data.seq #[] } ::
  { cls := Value.none, dict := none, data := .func { name := Str.ofString "_law_mean", qualname := Str.ofString "_law_mean", params := S.a36, body := .stmts S.b36, scope := S.c36, globals := 0, closure := [], defaults := Value.none, kwdefaults := Value.none, doc := Value.none, pyModule := Value.none, annotations := none, code := Value.none, closureTuple := Value.none, builtins := 0 }, slots := #[] } ::
  { cls := Value.type "code", data := Data.fields #[Value.str (Str.ofString "_law_mean") 470, Value.str (Str.ofString "_law_mean") 471, Value.str (Str.ofString "/claim/cut.py") 472, Value.int 149 0, Value.int 2 0, Value.int 0 0, Value.int 0 0, Value.int 3 0, Value.ref 229, Value.bool true, Value.int 181 0, Value.ref 230, Value.none, Value.ref 231, Value.ref 232, Value.ref 233, Value.int 480 0, Value.int 149 0, Value.str (Str.ofString "/claim/cut.py") 481] } ::
  { cls := .type "function", data := .func (fnX (Str.ofString "_law_mean") (Str.ofString "_law_mean") S.a36 S.b36 S.c36 [] (Value.none) (Value.none) (Value.none) (Value.str (Str.ofString "law_on0236_01") 407) (none) (Value.ref 234) (Value.none)) } ::
  { cls := Value.type "tuple", data := Data.seq #[] } ::
  { cls := Value.none, data := Data.fields #[] } ::
  { cls := Value.none, dict := none, data := .func { name := Str.ofString "_law_halved", qualname := Str.ofString "_law_halved", params := S.a37, body := .stmts S.b37, scope := S.c37, globals := 0, closure := [], defaults := Value.none, kwdefaults := Value.none, doc := Value.none, pyModule := Value.none, annotations := none, code := Value.none, closureTuple := Value.none, builtins := 0 }, slots := #[] } ::
  { cls := Value.type "code", data := Data.fields #[Value.str (Str.ofString "_law_halved") 483, Value.str (Str.ofString "_law_halved") 484, Value.str (Str.ofString "/claim/cut.py") 485, Value.int 154 0, Value.int 1 0, Value.int 0 0, Value.int 0 0, Value.int 3 0, Value.ref 236, Value.bool true, Value.int 181 0, Value.ref 237, Value.none, Value.none, Value.none, Value.ref 238, Value.int 486 0, Value.int 154 0, Value.str (Str.ofString "/claim/cut.py") 487] } ::
  { cls := .type "function", data := .func (fnX (Str.ofString "_law_halved") (Str.ofString "_law_halved") S.a37 S.b37 S.c37 [] (Value.none) (Value.none) (Value.none) (Value.str (Str.ofString "law_on0236_01") 407) (none) (Value.ref 239) (Value.none)) } ::
  { cls := Value.type "tuple", data := Data.seq #[] } ::
  { cls := Value.none, data := Data.fields #[] } ::
  { cls := Value.none, dict := none, data := .func { name := Str.ofString "_law_parts", qualname := Str.ofString "_law_parts", params := S.a38, body := .stmts S.b38, scope := S.c38, globals := 0, closure := [], defaults := Value.none, kwdefaults := Value.none, doc := Value.none, pyModule := Value.none, annotations := none, code := Value.none, closureTuple := Value.none, builtins := 0 }, slots := #[] } ::
  { cls := Value.type "code", data := Data.fields #[Value.str (Str.ofString "_law_parts") 489, Value.str (Str.ofString "_law_parts") 490, Value.str (Str.ofString "/claim/cut.py") 491, Value.int 160 0, Value.int 2 0, Value.int 0 0, Value.int 0 0, Value.int 3 0, Value.ref 241, Value.bool true, Value.int 181 0, Value.ref 242, Value.none, Value.none, Value.none, Value.ref 243, Value.int 492 0, Value.int 160 0, Value.str (Str.ofString "/claim/cut.py") 493] } ::
  { cls := .type "function", data := .func (fnX (Str.ofString "_law_parts") (Str.ofString "_law_parts") S.a38 S.b38 S.c38 [] (Value.none) (Value.none) (Value.none) (Value.str (Str.ofString "law_on0236_01") 407) (none) (Value.ref 244) (Value.none)) } ::
  { cls := Value.type "tuple", data := Data.seq #[] } ::
  { cls := Value.none, data := Data.fields #[] } ::
  { cls := Value.none, dict := none, data := .func { name := Str.ofString "_law_around", qualname := Str.ofString "_law_around", params := S.a39, body := .stmts S.b39, scope := S.c39, globals := 0, closure := [], defaults := Value.none, kwdefaults := Value.none, doc := Value.none, pyModule := Value.none, annotations := none, code := Value.none, closureTuple := Value.none, builtins := 0 }, slots := #[] } ::
  { cls := Value.type "code", data := Data.fields #[Value.str (Str.ofString "_law_around") 495, Value.str (Str.ofString "_law_around") 496, Value.str (Str.ofString "/claim/cut.py") 497, Value.int 165 0, Value.int 2 0, Value.int 0 0, Value.int 0 0, Value.int 3 0, Value.ref 246, Value.bool true, Value.int 181 0, Value.ref 247, Value.none, Value.none, Value.none, Value.ref 248, Value.int 498 0, Value.int 165 0, Value.str (Str.ofString "/claim/cut.py") 499] } ::
  { cls := .type "function", data := .func (fnX (Str.ofString "_law_around") (Str.ofString "_law_around") S.a39 S.b39 S.c39 [] (Value.none) (Value.none) (Value.none) (Value.str (Str.ofString "law_on0236_01") 407) (none) (Value.ref 249) (Value.none)) } ::
  { cls := Value.type "tuple", data := Data.seq #[] } ::
  { cls := Value.none, data := Data.fields #[] } ::
  { cls := Value.none, dict := none, data := .func { name := Str.ofString "_law_curve_right", qualname := Str.ofString "_law_curve_right", params := S.a40, body := .stmts S.b40, scope := S.c40, globals := 0, closure := [], defaults := Value.none, kwdefaults := Value.none, doc := Value.none, pyModule := Value.none, annotations := none, code := Value.none, closureTuple := Value.none, builtins := 0 }, slots := #[] } ::
  { cls := Value.type "code", data := Data.fields #[Value.str (Str.ofString "_law_curve_right") 501, Value.str (Str.ofString "_law_curve_right") 502, Value.str (Str.ofString "/claim/cut.py") 503, Value.int 171 0, Value.int 1 0, Value.int 0 0, Value.int 0 0, Value.int 3 0, Value.ref 251, Value.bool true, Value.int 181 0, Value.ref 252, Value.none, Value.none, Value.none, Value.ref 253, Value.int 504 0, Value.int 171 0, Value.str (Str.ofString "/claim/cut.py") 505] } ::
  { cls := .type "function", data := .func (fnX (Str.ofString "_law_curve_right") (Str.ofString "_law_curve_right") S.a40 S.b40 S.c40 [] (Value.none) (Value.none) (Value.none) (Value.str (Str.ofString "law_on0236_01") 407) (none) (Value.ref 254) (Value.none)) } ::
  { cls := Value.type "tuple", data := Data.seq #[] } ::
  { cls := Value.none, data := Data.fields #[] } ::
  { cls := Value.type "tuple", data := Data.seq #[Value.str (Str.ofString "spots") 510, Value.str (Str.ofString "total") 511, Value.str (Str.ofString "j") 512, Value.str (Str.ofString "x") 513, Value.str (Str.ofString "y") 514] } ::
  { cls := Value.type "tuple", data := Data.seq #[] } ::
  { cls := Value.none, dict := none, data := .func { name := Str.ofString "_law_area", qualname := Str.ofString "_law_area", params := S.a41, body := .stmts S.b41, scope := S.c41, globals := 0, closure := [], defaults := Value.none, kwdefaults := Value.none, doc := Value.none, pyModule := Value.none, annotations := none, code := Value.none, closureTuple := Value.none, builtins := 0 }, slots := #[] } ::
  { cls := Value.type "code", data := Data.fields #[Value.str (Str.ofString "_law_area") 507, Value.str (Str.ofString "_law_area") 508, Value.str (Str.ofString "/claim/cut.py") 509, Value.int 187 0, Value.int 1 0, Value.int 0 0, Value.int 0 0, Value.int 3 0, Value.ref 256, Value.bool true, Value.int 181 0, Value.ref 257, Value.none, Value.ref 258, Value.ref 259, Value.ref 260, Value.int 515 0, Value.int 187 0, Value.str (Str.ofString "/claim/cut.py") 516] } ::
  { cls := .type "function", data := .func (fnX (Str.ofString "_law_area") (Str.ofString "_law_area") S.a41 S.b41 S.c41 [] (Value.none) (Value.none) (Value.none) (Value.str (Str.ofString "law_on0236_01") 407) (none) (Value.ref 261) (Value.none)) } ::
  { cls := Value.type "tuple", data := Data.seq #[] } ::
  { cls := Value.none, data := Data.fields #[] } ::
  { cls := Value.none, dict := none, data := .func { name := Str.ofString "law", qualname := Str.ofString "law", params := S.a42, body := .stmts S.b42, scope := S.c42, globals := 0, closure := [], defaults := Value.none, kwdefaults := Value.none, doc := Value.none, pyModule := Value.none, annotations := none, code := Value.none, closureTuple := Value.none, builtins := 0 }, slots := #[] } ::
  { cls := Value.type "code", data := Data.fields #[Value.str (Str.ofString "law") 518, Value.str (Str.ofString "law") 519, Value.str (Str.ofString "/claim/cut.py") 520, Value.int 193 0, Value.int 1 0, Value.int 0 0, Value.int 0 0, Value.int 3 0, Value.ref 263, Value.bool true, Value.int 181 0, Value.ref 264, Value.none, Value.none, Value.none, Value.ref 265, Value.int 521 0, Value.int 193 0, Value.str (Str.ofString "/claim/cut.py") 522] } ::
  { cls := .type "function", data := .func (fnX (Str.ofString "law") (Str.ofString "law") S.a42 S.b42 S.c42 [] (Value.none) (Value.none) (Value.none) (Value.str (Str.ofString "law_on0236_01") 407) (none) (Value.ref 266) (Value.none)) } ::
  []
noncomputable def hd.H1 (P : Params) : Heap := ⟨Array.mk (hd.objs P), {}⟩
noncomputable def hd.view_39 : Program := { PySem.Challenge.pw_on0236_01 with main := { PySem.Challenge.pw_on0236_01.main with body := [S.s1, S.s2, S.s4, S.s6, S.s7, S.s8, S.s9, S.s10, S.s11, S.s12, S.s14, S.s15, S.s16, S.s18, S.s19, S.s20, S.s21, S.s22, S.s23, S.s24, S.s28, S.s29, S.s30, S.s31, S.s32, S.s33, S.s34, S.s35, S.s36, S.s37, S.s38, S.s39, S.s40, S.s41, S.s42] } }
noncomputable abbrev hd.hook : Hook := kHook hd.heap_39 [nat_lit 3, nat_lit 52, nat_lit 53, nat_lit 54, nat_lit 60, nat_lit 61, nat_lit 67, nat_lit 68, nat_lit 74, nat_lit 75, nat_lit 81, nat_lit 82, nat_lit 88, nat_lit 89, nat_lit 95, nat_lit 96, nat_lit 102, nat_lit 103, nat_lit 109, nat_lit 110, nat_lit 116, nat_lit 117, nat_lit 121, nat_lit 122, nat_lit 126, nat_lit 127, nat_lit 128, nat_lit 132, nat_lit 133, nat_lit 139, nat_lit 140, nat_lit 146, nat_lit 147, nat_lit 153, nat_lit 154, nat_lit 160, nat_lit 161, nat_lit 165, nat_lit 166, nat_lit 167, nat_lit 171, nat_lit 172, nat_lit 173, nat_lit 177, nat_lit 178, nat_lit 184, nat_lit 185, nat_lit 191, nat_lit 192, nat_lit 198, nat_lit 199, nat_lit 203, nat_lit 204, nat_lit 210, nat_lit 211, nat_lit 215, nat_lit 216, nat_lit 222, nat_lit 223, nat_lit 227, nat_lit 228, nat_lit 234, nat_lit 235, nat_lit 239, nat_lit 240, nat_lit 244, nat_lit 245, nat_lit 249, nat_lit 250, nat_lit 254, nat_lit 255, nat_lit 261, nat_lit 262, nat_lit 266, nat_lit 267] (fun _ => by kernel_rfl)
noncomputable abbrev hd.xt (s : Shared) : Bool := xlAt hd.view_39 [] s && recOk (RowW.records PySem.Challenge.rw_on0236_01.row.toRowW) s
noncomputable abbrev hd.fin (w : World) (os : OsState) : Shared := ⟨hd.H1 w.params, Array.mk [], {}, 524, os⟩
abbrev hd.loose : List Str := [Str.ofString "fraction", Str.ofString "curve_box", Str.ofString "reached_box"]
theorem hd.said : PySem.Challenge.rw_on0236_01.wellSaid = true := by
  first
  | (rw [PySem.W.Fast.te9446332074065402090]
     unfold PySem.W.Fast.tw9446332074065402090 PySem.W.Fast.tw17960256430627541270 PySem.W.Fast.tw2436336058641802641 PySem.W.Fast.tw12908688711261696721
     repeat' (with_reducible refine look_both ?_ ?_)
     all_goals (as_aux_lemma => kernel_rfl))
  | kernel_rfl
section
variable (w : World) (os : OsState)
-- the run of the top, from the booted heap to the heap that is written out: one check, on the library's quick twins
theorem hd.run : topRun treeTable PySem.Challenge.pw_on0236_01 w 11 (some (.ref 6)) 3170 ⟨boot_heap w.params, Array.mk [], boot_drawn, boot_toks, os⟩ (topStub PySem.Challenge.pw_on0236_01) = some (hd.fin w os) := by
  first | rw [PySem.W.Fast.te14082659384304107361, PySem.W.Fast.te14364793385576792824] | skip
  kernel_rfl
-- the looks at that heap, one by one
theorem hd.k1 {m : List Str} (hm : m = []) : staticsOk m (boot_heap w.params) (hd.H1 w.params) = true := by subst hm; kernel_rfl
theorem hd.k2 : namesBound PySem.Challenge.pw_on0236_01 (hd.H1 w.params) = true := by kernel_rfl
theorem hd.k3 : gensDone (hd.fin w os) = true := by kernel_rfl
theorem hd.k4 : laidKept (boot_heap w.params) (hd.H1 w.params) = true := by kernel_rfl
theorem hd.l1 : seen ((recsOf hd.view_39).map (·.name)) (ownsOf hd.view_39) [] { hd.fin w os with gens := #[] } = expectedOf hd.view_39 := by kernel_rfl
theorem hd.l2 : (hd.fin w os).heap.bltView = bltViewBooted := by kernel_rfl
theorem hd.l3 {m : List Str} (hm : m = []) : ((hd.fin w os).heap.keysOk (looseW hd.view_39 hd.loose) ((recsOf hd.view_39).map (·.name)) ((litsOf hd.view_39).map (·.1)) ((clssOf hd.view_39 (looseW hd.view_39 hd.loose)).map (·.name)) && (hd.fin w os).heap.accountedOkI m && (hd.fin w os).heap.isNs mainGlobals && (hd.fin w os).heap.isNs builtinsNs && tablesOk hd.view_39 (hd.fin w os).heap && hd.xt (hd.fin w os) && (if true then (hd.fin w os).gens.size == 0 else !leftWithCleanup (hd.fin w os).gens)) = true := by subst hm; kernel_rfl
theorem hd.l4 : tabsOk hd.view_39 (hd.fin w os) = true := by kernel_rfl
theorem hd.l5 : pinSeenD hd.view_39 (drecsOf hd.view_39) (hd.fin w os) = pinGoodD (drecsOf hd.view_39) := by kernel_rfl
theorem hd.l6 : plainSeenE hd.view_39 (looseW hd.view_39 hd.loose) (hd.fin w os) = plainGoodE hd.view_39 (looseW hd.view_39 hd.loose) := by kernel_rfl
theorem hd.l7 : plainSeenD hd.view_39 hd.loose (hd.fin w os) = plainGoodD hd.view_39 hd.loose := by kernel_rfl
theorem hd.l8 : wideSeen hd.view_39 (hd.fin w os) = wideGood hd.view_39 := by kernel_rfl
theorem hd.l9 : clsSeenW hd.view_39 hd.loose (hd.fin w os) = clsGoodW hd.view_39 hd.loose := by kernel_rfl
theorem hd.ya : Hook.obs hd.hook (hd.fin w os) = Hook.val hd.hook w := by kernel_rfl
end
theorem hd.seen_good {q : Program} {loose mods : List Str} {Xt : Shared → Bool} {s : Shared} (e1 : seen ((recsOf q).map (·.name)) (ownsOf q) [] { s with gens := #[] } = expectedOf q) (e2 : s.heap.bltView = bltViewBooted)
    (e3 : (s.heap.keysOk (looseW q loose) ((recsOf q).map (·.name)) ((litsOf q).map (·.1)) ((clssOf q (looseW q loose)).map (·.name)) && s.heap.accountedOkI mods && s.heap.isNs mainGlobals && s.heap.isNs builtinsNs && tablesOk q s.heap && Xt s && (if true then s.gens.size == 0 else !leftWithCleanup s.gens)) = true)
    (e4 : tabsOk q s = true) (e5 : pinSeenD q (drecsOf q) s = pinGoodD (drecsOf q)) (e6 : plainSeenE q (looseW q loose) s = plainGoodE q (looseW q loose)) (e7 : plainSeenD q loose s = plainGoodD q loose) (e8 : wideSeen q s = wideGood q) (e9 : clsSeenW q loose s = clsGoodW q loose) :
    openSeen q loose mods Xt true s = openGood q loose :=
  looks_pair e1 (looks_pair e2 (looks_pair e3 (looks_pair e4 (looks_pair e5 (looks_pair e6 (looks_pair e7 (looks_pair e8 e9)))))))
theorem hd.four {a b c d : Bool} (h1 : a = true) (h2 : b = true) (h3 : c = true) (h4 : d = true) : (a && b && c && d) = true := look_both (look_both (look_both h1 h2) h3) h4
theorem hd.left : LeftO PySem.Challenge.pw_on0236_01 hd.view_39 hd.loose hd.xt (Hook.obs hd.hook) (Hook.val hd.hook) 3170 :=
  LeftO.of_pieces (H₀ := boot_heap) (H₁ := hd.H1) (gs₀ := Array.mk []) (gs₁ := Array.mk []) (d₀ := boot_drawn) (d₁ := {}) (k₀ := boot_toks) (k₁ := 524) (m₀ := 11) (ann := some (.ref 6)) (M := 3170)
    (boot_open (by kernel_rfl) (by decide) (fun s => by kernel_rfl)) (fun w => by kernel_rfl) (fun w os => hd.run w os) (by decide)
    (fun w => funext fun os => looks_pair (hd.four (hd.k1 w (by kernel_rfl)) (hd.k2 w) (hd.k3 w os) (hd.k4 w)) (looks_pair (hd.seen_good (hd.l1 w os) (hd.l2 w os) (hd.l3 w os (by kernel_rfl)) (hd.l4 w os) (hd.l5 w os) (hd.l6 w os) (hd.l7 w os) (hd.l8 w os) (hd.l9 w os)) (hd.ya w os)))
theorem hd (walk : WalkO hd.view_39 [Str.ofString "fraction", Str.ofString "curve_box", Str.ofString "reached_box"] (XL hd.view_39 []) hd.hook.says PySem.Challenge.rw_on0236_01.row.toRowW { name := Str.ofString "law", params := S.a42, body := S.b42, scope := S.c42, pos := ⟨193, 0, 207, 88⟩ } [] fun f vs => call f vs) : PySem.Challenge.rw_on0236_01.Holds := by
  w_on
  refine holds_law hd.said fun said => ?_
  refine PySem.W.holds_open (q := hd.view_39) (loose := [Str.ofString "fraction", Str.ofString "curve_box", Str.ofString "reached_box"]) (Xt := hd.xt) (XP := XL hd.view_39 []) (Yf := Hook.obs hd.hook) (Ya := Hook.val hd.hook) (YP := Hook.says hd.hook) (N := 3170) hd.left (Hook.of hd.hook) (Hook.keeps hd.hook) (fun s e => xl_of s (Bool.and_eq_true_iff.mp e).1) XL.keeps (by rfl) (by rfl) (by rfl) (fun s e => recFacts_of (Bool.and_eq_true_iff.mp e).2) (by rfl) (by assumption) (by decide +kernel) ⟨rfl, rfl, rfl, rfl, rfl, by decide +kernel⟩ ?hw walk
  case hw => w_witness2
-- part L1
/-- the data of this law -/
inductive D where
  | none
  | bool (b : Bool)
  | int (i : Int)
  | tup (l : List D)
  | lst (l : List D)
  | rng (a : Int) (n : Nat)
  | mref (a : Addr)

abbrev Imm := Addr → Option Obj
abbrev Mu := Addr → Option (List D)

mutual
/-- the value v is the datum d, by the fixed objects I -/
inductive Rep (I : Imm) : Value → D → Prop
  | none : Rep I .none .none
  | bool (b : Bool) : Rep I (.bool b) (.bool b)
  | int (i : Int) (t : Tok) : Rep I (.int i t) (.int i)
  | tup {a : Addr} {n : Nat} {vs : List Value} {ds : List D} : I a = some { cls := .type "tuple", data := .seq vs.toArray n } → Reps I vs ds → Rep I (.ref a) (.tup ds)
  | lst {a : Addr} {o : Obj} {n : Nat} {vs : List Value} {ds : List D} : I a = some o → o.cls = .type "list" → o.data = .seq vs.toArray n → Reps I vs ds → Rep I (.ref a) (.lst ds)
  | rng {r : Addr} {a b : Int} {n : Nat} {t u v : Tok} : I r = some { cls := .type "range", dict := none, data := .fields #[.int a t, .int b u, .int 1 v], slots := #[] } → (b = a + n ∨ (n = 0 ∧ b ≤ a ∧ -1000 ≤ b)) → Rep I (.ref r) (.rng a n)
  | mref (a : Addr) : Rep I (.ref a) (.mref a)
inductive Reps (I : Imm) : List Value → List D → Prop
  | nil : Reps I [] []
  | cons {v : Value} {d : D} {vs : List Value} {ds : List D} : Rep I v d → Reps I vs ds → Reps I (v :: vs) (d :: ds)
end

def Imm.Sub (I J : Imm) : Prop := ∀ a o, I a = some o → J a = some o

mutual
theorem Rep.mono {I J : Imm} (s : I.Sub J) : ∀ {v : Value} {d : D}, Rep I v d → Rep J v d
  | _, _, .none => .none
  | _, _, .bool b => .bool b
  | _, _, .int i t => .int i t
  | _, _, .tup h r => .tup (s _ _ h) (Reps.mono s r)
  | _, _, .lst h c e r => .lst (s _ _ h) c e (Reps.mono s r)
  | _, _, .rng h e => .rng (s _ _ h) e
  | _, _, .mref a => .mref a
theorem Reps.mono {I J : Imm} (s : I.Sub J) : ∀ {vs : List Value} {ds : List D}, Reps I vs ds → Reps J vs ds
  | _, _, .nil => .nil
  | _, _, .cons h t => .cons (Rep.mono s h) (Reps.mono s t)
end

theorem Reps.length {I : Imm} : ∀ {vs : List Value} {ds : List D}, Reps I vs ds → vs.length = ds.length
  | _, _, .nil => rfl
  | _, _, .cons _ t => by simp [Reps.length t]
theorem Reps.get {I : Imm} : ∀ {vs : List Value} {ds : List D}, Reps I vs ds → ∀ (i : Nat) (d : D), ds[i]? = some d → ∃ v, vs[i]? = some v ∧ Rep I v d
  | _, _, .nil, i, d, h => by simp at h
  | _, _, .cons (v := v) h t, 0, d, e => by
    simp at e; subst e; exact ⟨v, rfl, h⟩
  | _, _, .cons h t, i + 1, d, e => by
    simp at e; obtain ⟨v, hv, r⟩ := Reps.get t i d e; exact ⟨v, by simpa using hv, r⟩
theorem Reps.get' {I : Imm} : ∀ {vs : List Value} {ds : List D}, Reps I vs ds → ∀ (i : Nat) (v : Value), vs[i]? = some v → ∃ d, ds[i]? = some d ∧ Rep I v d
  | _, _, .nil, i, d, h => by simp at h
  | _, _, .cons (d := d) h t, 0, v, e => by
    simp at e; subst e; exact ⟨d, rfl, h⟩
  | _, _, .cons h t, i + 1, v, e => by
    simp at e; obtain ⟨v, hv, r⟩ := Reps.get' t i v e; exact ⟨v, by simpa using hv, r⟩
theorem Reps.append {I : Imm} : ∀ {vs ws : List Value} {ds es : List D}, Reps I vs ds → Reps I ws es → Reps I (vs ++ ws) (ds ++ es)
  | _, _, _, _, .nil, h => h
  | _, _, _, _, .cons h t, r => .cons h (Reps.append t r)
theorem Reps.snoc {I : Imm} {vs : List Value} {ds : List D} {v : Value} {d : D} (h : Reps I vs ds) (r : Rep I v d) : Reps I (vs ++ [v]) (ds ++ [d]) := h.append (.cons r .nil)
theorem Reps.reverse {I : Imm} : ∀ {vs : List Value} {ds : List D}, Reps I vs ds → Reps I vs.reverse ds.reverse
  | _, _, .nil => .nil
  | _, _, .cons h t => by simpa using Reps.snoc (Reps.reverse t) h

structure Wd where
  I : Imm
  μ : Mu

structure MemOk (h : Heap) (W : Wd) : Prop where
  imm : ∀ a o, W.I a = some o → h.get? a = some o
  mu : ∀ a ds, W.μ a = some ds → ∃ vs : List Value, h.PlainList a vs.toArray ∧ Reps W.I vs ds
  apart : ∀ a, W.μ a ≠ none → W.I a = none

/-- one step of memory: what is neither a list at hand nor in P stays -/
structure TrF (P : Addr → Prop) (s : Shared) (W : Wd) (s' : Shared) (W' : Wd) : Prop where
  same : ∃ h tk, s' = { s with heap := h, toks := tk }
  keep : ∀ b o, s.heap.get? b = some o → W.μ b = none → ¬ P b → s'.heap.get? b = some o
  live : ∀ b, s.heap.get? b ≠ none → s'.heap.get? b ≠ none
  imm : W.I.Sub W'.I
  immNew : ∀ a, W'.I a ≠ none → W.I a ≠ none ∨ s.heap.get? a = none ∨ W.μ a ≠ none
  muNew : ∀ a, W'.μ a ≠ none → W.μ a ≠ none ∨ s.heap.get? a = none
  mem : MemOk s'.heap W'

def NoP : Addr → Prop := fun _ => False

theorem TrF.refl {P : Addr → Prop} {s : Shared} {W : Wd} (m : MemOk s.heap W) : TrF P s W s W :=
  ⟨⟨_, _, rfl⟩, fun _ _ e _ _ => e, fun _ e => e, fun _ _ e => e, fun _ e => .inl e, fun _ e => .inl e, m⟩

theorem TrF.mono {P P' : Addr → Prop} {s s' : Shared} {W W' : Wd} (x : TrF P s W s' W') (hp : ∀ a, P a → P' a) : TrF P' s W s' W' :=
  ⟨x.same, fun b o e m n => x.keep b o e m fun q => n (hp _ q), x.live, x.imm, x.immNew, x.muNew, x.mem⟩
theorem TrF.up {P : Addr → Prop} {s s' : Shared} {W W' : Wd} (x : TrF NoP s W s' W') : TrF P s W s' W' := x.mono fun _ h => h.elim

theorem TrF.muKeep {P : Addr → Prop} {s s' : Shared} {W W' : Wd} (x : TrF P s W s' W') {a : Addr} (ha : s.heap.get? a ≠ none) (hm : W.μ a = none) : W'.μ a = none := by
  cases h : W'.μ a with
  | none => rfl
  | some d =>
    rcases x.muNew a (by rw [h]; simp) with q | q
    · exact absurd hm q
    · exact absurd q ha

theorem TrF.immKeep {P : Addr → Prop} {s s' : Shared} {W W' : Wd} (x : TrF P s W s' W') {a : Addr} (ha : s.heap.get? a ≠ none) (hI : W.I a = none) (hm : W.μ a = none) : W'.I a = none := by
  cases h : W'.I a with
  | none => rfl
  | some d =>
    rcases x.immNew a (by rw [h]; simp) with q | q | q
    · exact absurd hI q
    · exact absurd q ha
    · exact absurd hm q

theorem TrF.trans {P : Addr → Prop} {s s' s'' : Shared} {W W' W'' : Wd} (x : TrF P s W s' W') (y : TrF P s' W' s'' W'') : TrF P s W s'' W'' := by
  refine ⟨?_, fun b o e m n => ?_, fun b e => y.live b (x.live b e), fun a o e => y.imm a o (x.imm a o e), fun a e => ?_, fun a e => ?_, y.mem⟩
  · obtain ⟨h, t, rfl⟩ := x.same
    obtain ⟨h', t', rfl⟩ := y.same
    exact ⟨h', t', rfl⟩
  · exact y.keep b o (x.keep b o e m n) (x.muKeep (by rw [e]; simp) m) n
  · have back : s'.heap.get? a = none → s.heap.get? a = none := fun q => by
      cases h : s.heap.get? a with
      | none => rfl
      | some o => exact absurd q (x.live a (by rw [h]; simp))
    rcases y.immNew a e with q | q | q
    · exact x.immNew a q
    · exact .inr (.inl (back q))
    · rcases x.muNew a q with r | r
      · exact .inr (.inr r)
      · exact .inr (.inl r)
  · rcases y.muNew a e with q | q
    · exact x.muNew a q
    · refine .inr ?_
      cases h : s.heap.get? a with
      | none => rfl
      | some o => exact absurd q (x.live a (by rw [h]; simp))

/-- what does not change from call to call -/
structure Gl where
  prog : Program
  w : World
  K : Frag
  p : Program
  loose : List Str
  mean : ExcName → Option Value
  mg : Str → Option Value
  mb : Str → Option Value
  half : Addr

structure Cx where
  A : Around
  A₀ : Around
  base : Heap
  outer : List Env
  fenv : Env
  h₀ : Heap
  L : Addr
  ev : Env

def Cx.own (c : Cx) (a : Addr) : Prop := a = c.L ∨ a = c.ev.locals ∨ ∃ x, c.ev.cells.lookup x = some a

/-- the places that a store to these names may change -/
def Cx.wr (c : Cx) (ns : List Str) (a : Addr) : Prop := a = c.ev.locals ∨ ∃ x ∈ ns, c.ev.kindOf x = some .cell ∧ c.ev.cells.lookup x = some a
theorem Cx.wr_own {c : Cx} {ns : List Str} {a : Addr} (h : c.wr ns a) : c.own a := by
  rcases h with h | ⟨x, _, _, h⟩
  · exact .inr (.inl h)
  · exact .inr (.inr ⟨x, h⟩)
theorem Cx.wr_mono {c : Cx} {ns ms : List Str} (hs : ∀ x ∈ ns, x ∈ ms) {a : Addr} (h : c.wr ns a) : c.wr ms a := by
  rcases h with h | ⟨x, m, k, h⟩
  · exact .inl h
  · exact .inr ⟨x, hs x m, k, h⟩

def Holds (ev : Env) (h : Heap) (x : Str) (v : Value) : Prop :=
  (ev.kindOf x = some .local ∧ ∃ m, h.Ns ev.locals m ∧ m x = some v) ∨ (ev.kindOf x = some .cell ∧ ∃ c, ev.cells.lookup x = some c ∧ h.IsCell c (some v))

abbrev Sg := List (Str × D)

structure FrOk (g : Gl) (c : Cx) (σ : Sg) (h : Heap) (W : Wd) : Prop where
  below : Below c.A₀ c.base c.outer c.h₀
  fr : ∃ m, Fr c.h₀ c.L h m
  kin : g.K.In c.h₀
  top : Top g.p g.loose g.mean g.mg g.mb c.h₀
  frames : c.A.frames = some (c.fenv :: c.outer)
  fframe : c.fenv.frame = some c.L
  fkind : c.fenv.scope.kind = .function
  handled : c.A.handled = none
  eg : c.ev.globals = mainGlobals
  eb : c.ev.builtins = builtinsNs
  ek : c.ev.scope.kind = .function
  efr : c.ev.frame = some c.L
  loc : ∃ m, h.Ns c.ev.locals m
  locAbove : c.h₀.get? c.ev.locals = none
  cell : ∀ x a, c.ev.cells.lookup x = some a → (∃ v, h.IsCell a v) ∧ a ≠ c.L ∧ a ≠ c.ev.locals ∧ c.h₀.get? a = none
  cellAt : ∀ x, c.ev.kindOf x = some .cell → ∃ a, c.ev.cells.lookup x = some a
  cellInj : ∀ x y a, c.ev.cells.lookup x = some a → c.ev.cells.lookup y = some a → x = y
  ownI : ∀ a, c.own a → W.I a = none ∧ W.μ a = none
  mu0 : ∀ a, W.μ a ≠ none → c.h₀.get? a = none
  vars : ∀ x d, σ.lookup x = some d → ∃ v, Holds c.ev h x v ∧ Rep W.I v d
  half : Rep W.I (.ref g.half) (.tup [.int 1, .int 2])

structure Room (A : Around) (n : Nat) : Prop where
  depth : A.depth + n < recursionLimit
  units : A.units + 3 * n + 200 < cLine

theorem Holds.keep {ev : Env} {h h' : Heap} {x : Str} {v : Value} (hh : Holds ev h x v) (k : ∀ a, (a = ev.locals ∨ ∃ y, ev.cells.lookup y = some a) → ∀ o, h.get? a = some o → h'.get? a = some o) : Holds ev h' x v := by
  rcases hh with ⟨e, m, hn, hm⟩ | ⟨e, c, hc, o, ho, hd⟩
  · exact .inl ⟨e, m, hn.at' fun o ho => k _ (.inl rfl) o ho, hm⟩
  · exact .inr ⟨e, c, hc, o, k _ (.inr ⟨x, hc⟩) o ho, hd⟩

theorem FrOk.lLt {g : Gl} {c : Cx} {σ : Sg} {h : Heap} {W : Wd} (F : FrOk g c σ h W) : h.get? c.L ≠ none := by
  obtain ⟨m, fr⟩ := F.fr
  obtain ⟨o, _, _, ho, _⟩ := fr.ns
  rw [ho]; simp
theorem FrOk.ownLive {g : Gl} {c : Cx} {σ : Sg} {h : Heap} {W : Wd} (F : FrOk g c σ h W) {a : Addr} (ha : c.own a) : h.get? a ≠ none := by
  rcases ha with rfl | rfl | ⟨x, hx⟩
  · exact F.lLt
  · obtain ⟨m, o, _, _, ho, _⟩ := F.loc
    rw [ho]; simp
  · obtain ⟨⟨v, o, ho, _⟩, _⟩ := F.cell x a hx
    rw [ho]; simp

/-- an expression's step leaves the frame as it was -/
theorem FrOk.tr {g : Gl} {c : Cx} {σ : Sg} {s s' : Shared} {W W' : Wd} (F : FrOk g c σ s.heap W) (T : TrF NoP s W s' W') : FrOk g c σ s'.heap W' := by
  have k : ∀ a, c.own a → ∀ o, s.heap.get? a = some o → s'.heap.get? a = some o := fun a ha o ho => T.keep a o ho (F.ownI a ha).2 (fun h => h)
  have k0 : ∀ b o, c.h₀.get? b = some o → s'.heap.get? b = some o := fun b o e => by
    obtain ⟨m, fr⟩ := F.fr
    refine T.keep b o (fr.keep b o e) ?_ (fun h => h)
    cases h : W.μ b with
    | none => rfl
    | some d => have := F.mu0 b (by rw [h]; simp); rw [e] at this; cases this
  refine ⟨F.below, ?_, F.kin, F.top, F.frames, F.fframe, F.fkind, F.handled, F.eg, F.eb, F.ek, F.efr, ?_, F.locAbove, fun x a hx => ?_, F.cellAt, F.cellInj, fun a ha => ?_, fun a ha => ?_, fun x d hx => ?_, F.half.mono T.imm⟩
  · obtain ⟨m, fr⟩ := F.fr
    exact ⟨m, fr.ns.at' fun o ho => k _ (.inl rfl) o ho, k0, fr.above⟩
  · obtain ⟨m, hn⟩ := F.loc
    exact ⟨m, hn.at' fun o ho => k _ (.inr (.inl rfl)) o ho⟩
  · obtain ⟨⟨v, o, ho, hd⟩, r⟩ := F.cell x a hx
    exact ⟨⟨v, o, k a (.inr (.inr ⟨x, hx⟩)) o ho, hd⟩, r⟩
  · have live := F.ownLive ha
    have hm := T.muKeep live (F.ownI a ha).2
    refine ⟨?_, hm⟩
    cases h : W'.I a with
    | none => rfl
    | some o =>
      rcases T.immNew a (by rw [h]; simp) with q | q | q
      · exact absurd (F.ownI a ha).1 q
      · exact absurd q live
      · exact absurd (F.ownI a ha).2 q
  · rcases T.muNew a ha with q | q
    · exact F.mu0 a q
    · cases h : c.h₀.get? a with
      | none => rfl
      | some o => obtain ⟨m, fr⟩ := F.fr; rw [fr.keep a o h] at q; cases q
  · obtain ⟨v, hh, r⟩ := F.vars x d hx
    exact ⟨v, hh.keep (fun a ha o ho => k a (by rcases ha with h | h; exact .inr (.inl h); exact .inr (.inr h)) o ho), r.mono T.imm⟩

/-- e comes to d; the lists turn from μ to μ' -/
def EvS (g : Gl) (sc : Scope) (n : Nat) (σ : Sg) (μ : Mu) (e : Expr) (d : D) (μ' : Mu) : Prop :=
  ∀ (c : Cx), c.ev.scope = sc → Room c.A n → ∀ (s : Shared) (I : Imm), FrOk g c σ s.heap ⟨I, μ⟩ → MemOk s.heap ⟨I, μ⟩ → ∀ (Q E : Value → Shared → Prop),
    (∀ v s' I', TrF NoP s ⟨I, μ⟩ s' ⟨I', μ'⟩ → Rep I' v d → Q v s') → wpAny (model g.prog g.w) c.A (eval e c.ev) Q E s

/-- a test comes to b -/
def TsS (g : Gl) (sc : Scope) (n : Nat) (σ : Sg) (μ : Mu) (e : Expr) (b : Bool) (μ' : Mu) : Prop :=
  ∀ (c : Cx), c.ev.scope = sc → Room c.A n → ∀ (s : Shared) (I : Imm), FrOk g c σ s.heap ⟨I, μ⟩ → MemOk s.heap ⟨I, μ⟩ → ∀ (Q : Bool → Shared → Prop) (E : Value → Shared → Prop),
    (∀ s' I', TrF NoP s ⟨I, μ⟩ s' ⟨I', μ'⟩ → Q b s') → wpAny (model g.prog g.w) c.A (isTrue e c.ev (eval e c.ev)) Q E s

/-- the items come to ds -/
def EvL (g : Gl) (sc : Scope) (n : Nat) (σ : Sg) (μ : Mu) (pos : Pos) (es : List Expr) (ds : List D) (μ' : Mu) : Prop :=
  ∀ (c : Cx), c.ev.scope = sc → Room c.A n → ∀ (s : Shared) (I : Imm), FrOk g c σ s.heap ⟨I, μ⟩ → MemOk s.heap ⟨I, μ⟩ → ∀ (Q : List Value → Shared → Prop) (E : Value → Shared → Prop),
    (∀ vs s' I', TrF NoP s ⟨I, μ⟩ s' ⟨I', μ'⟩ → Reps I' vs ds → Q vs s') → wpAny (model g.prog g.w) c.A (spliced (backTo pos (starEach es c.ev))) Q E s

inductive Fl where
  | next
  | ret (d : D)
inductive RepF (I : Imm) : Flow → Fl → Prop
  | next : RepF I .next .next
  | ret {v : Value} {d : D} : Rep I v d → RepF I (.ret v) (.ret d)

def ExS (g : Gl) (sc : Scope) (n : Nat) (σ : Sg) (μ : Mu) (ss : List Stmt) (fl : Fl) (σ' : Sg) (μ' : Mu) : Prop :=
  ∀ (c : Cx), c.ev.scope = sc → Room c.A n → ∀ (s : Shared) (I : Imm), FrOk g c σ s.heap ⟨I, μ⟩ → MemOk s.heap ⟨I, μ⟩ → ∀ (Q : Flow → Shared → Prop) (E : Value → Shared → Prop),
    (∀ f s' I', FrOk g c σ' s'.heap ⟨I', μ'⟩ → TrF c.own s ⟨I, μ⟩ s' ⟨I', μ'⟩ → RepF I' f fl → Q f s') → wpAny (model g.prog g.w) c.A (execs ss c.ev) Q E s
def Ex1 (g : Gl) (sc : Scope) (n : Nat) (σ : Sg) (μ : Mu) (st : Stmt) (fl : Fl) (σ' : Sg) (μ' : Mu) : Prop :=
  ∀ (c : Cx), c.ev.scope = sc → Room c.A n → ∀ (s : Shared) (I : Imm), FrOk g c σ s.heap ⟨I, μ⟩ → MemOk s.heap ⟨I, μ⟩ → ∀ (Q : Flow → Shared → Prop) (E : Value → Shared → Prop),
    (∀ f s' I', FrOk g c σ' s'.heap ⟨I', μ'⟩ → TrF c.own s ⟨I, μ⟩ s' ⟨I', μ'⟩ → RepF I' f fl → Q f s') → wpAny (model g.prog g.w) c.A (exec st c.ev) Q E s
-- part L2
section
variable {g : Gl} {sc : Scope} {n : Nat} {σ : Sg} {μ μ₁ μ₂ μ₃ : Mu}

theorem EvS.name {x : Str} {pos : Pos} {d : D} (hx : σ.lookup x = some d) (hd : (x == ("__debug__" : Str)) = false := by decide) : EvS g sc n σ μ (.Name x pos) d μ := by
  intro c hsc R s I F M Q E k
  obtain ⟨v, hh, r⟩ := F.vars x d hx
  have fin : Q v s := k v s I (TrF.refl M) r
  rcases hh with ⟨e, m, hn, hm⟩ | ⟨e, a, ha, hc⟩
  · exact wpAny_Name (wpAny_loadName_local F.ek e hn hm fin) hd
  · exact wpAny_Name (wpAny_loadName_cell F.ek e ha hc fin) hd

theorem EvS.half {x : Str} {pos : Pos} (hk : nsIn g.K mainGlobals x = some (some (.ref g.half))) (hx : sc.names.lookup x = some .globalImplicit) (hd : (x == ("__debug__" : Str)) = false := by decide) :
    EvS g sc n σ μ (.Name x pos) (.tup [.int 1, .int 2]) μ := by
  intro c hsc R s I F M Q E k
  have fin := k _ s I (TrF.refl M) F.half
  obtain ⟨m, fr⟩ := F.fr
  have G := F.top.g.keeps fr.keep
  exact Name_function_global F.ek (by unfold Env.kindOf; rw [hsc]; exact hx) (loadGlobal_global (env := c.ev) (by rw [F.eg]; exact G) (mg_of F.kin F.top.g hk) fin) hd

theorem EvS.int {i : Int} {k : Nat} {pos : Pos} : EvS g sc n σ μ (.Constant (.int i) k pos) (.int i) μ := by
  intro c hsc R s I F M Q E h
  refine wpAny_Constant_int (h _ _ I ?_ (.int _ _))
  exact ⟨⟨_, _, rfl⟩, fun _ _ e _ _ => e, fun _ e => e, fun _ _ e => e, fun _ e => .inl e, fun _ e => .inl e, M⟩
theorem EvS.bool {b : Bool} {k : Nat} {pos : Pos} : EvS g sc n σ μ (.Constant (.bool b) k pos) (.bool b) μ := by
  intro c hsc R s I F M Q E h
  exact wpAny_Constant_bool (h _ _ I (TrF.refl M) (.bool _))
theorem EvS.cnone {k : Nat} {pos : Pos} : EvS g sc n σ μ (.Constant .none k pos) .none μ := by
  intro c hsc R s I F M Q E h
  exact wpAny_Constant_none (h _ _ I (TrF.refl M) .none)

theorem TrF.tok {P : Addr → Prop} {s s' : Shared} {W W' : Wd} {k : Nat} (T : TrF P s W s' W') : TrF P s W { s' with toks := k } W' :=
  ⟨by obtain ⟨h, t, rfl⟩ := T.same; exact ⟨h, k, rfl⟩, T.keep, T.live, T.imm, T.immNew, T.muNew, T.mem⟩

/-- two values, then an operation that makes a plain value -/
theorem EvS.bin {l r : Expr} {op : Operator} {pos : Pos} {a b d : D} (hl : EvS g sc n σ μ l a μ₁) (hr : EvS g sc n σ μ₁ r b μ₂)
    (hop : ∀ (A : Around) (va vb : Value) (s : Shared) (I : Imm) (Q E : Value → Shared → Prop), A.handled = none → Rep I va a → Rep I vb b → MemOk s.heap ⟨I, μ₂⟩ → (∀ v k, Rep I v d → Q v { s with toks := k }) → wpAny (model g.prog g.w) A (binaryOp op va vb) Q E s) :
    EvS g sc n σ μ (.BinOp l op r pos) d μ₂ := by
  intro c hsc R s I F M Q E k
  refine wpAny_BinOp (hl c hsc R s I F M _ _ fun va s₁ I₁ T₁ r₁ => hr c hsc R s₁ I₁ (F.tr T₁) T₁.mem _ _ fun vb s₂ I₂ T₂ r₂ => ?_)
  exact hop _ va vb s₂ I₂ _ _ F.handled (r₁.mono T₂.imm) r₂ T₂.mem fun v tk rv => k v _ I₂ (T₁.trans T₂).tok rv

theorem EvS.add {l r : Expr} {pos : Pos} {a b : Int} (hl : EvS g sc n σ μ l (.int a) μ₁) (hr : EvS g sc n σ μ₁ r (.int b) μ₂) : EvS g sc n σ μ (.BinOp l .Add r pos) (.int (a + b)) μ₂ :=
  EvS.bin hl hr fun A va vb s I Q E _ ha hb _ k => by cases ha; cases hb; exact PyProof.Rows.add_int (k _ _ (.int _ _))
theorem EvS.sub {l r : Expr} {pos : Pos} {a b : Int} (hl : EvS g sc n σ μ l (.int a) μ₁) (hr : EvS g sc n σ μ₁ r (.int b) μ₂) : EvS g sc n σ μ (.BinOp l .Sub r pos) (.int (a - b)) μ₂ :=
  EvS.bin hl hr fun A va vb s I Q E _ ha hb _ k => by cases ha; cases hb; exact PyProof.Rows.sub_int (k _ _ (.int _ _))
theorem EvS.mul {l r : Expr} {pos : Pos} {a b : Int} (hl : EvS g sc n σ μ l (.int a) μ₁) (hr : EvS g sc n σ μ₁ r (.int b) μ₂) (hm : IntMulOk a b) : EvS g sc n σ μ (.BinOp l .Mult r pos) (.int (a * b)) μ₂ :=
  EvS.bin hl hr fun A va vb s I Q E _ ha hb _ k => by cases ha; cases hb; exact PyProof.Rows.mul_int (k _ _ (.int _ _)) hm
theorem EvS.fdiv {l r : Expr} {pos : Pos} {a b : Int} (hl : EvS g sc n σ μ l (.int a) μ₁) (hr : EvS g sc n σ μ₁ r (.int b) μ₂) (hb : b ≠ 0) (hs : b.natAbs.log2 < 9000) :
    EvS g sc n σ μ (.BinOp l .FloorDiv r pos) (.int (a.fdiv b)) μ₂ :=
  EvS.bin hl hr fun A va vb s I Q E _ ra rb _ k => by cases ra; cases rb; exact PyProof.Rows.floordiv_int hb (k _ _ (.int _ _)) (.inl (PyProof.noPylong_of_log2 hs))
theorem EvS.mod {l r : Expr} {pos : Pos} {a b : Int} (hl : EvS g sc n σ μ l (.int a) μ₁) (hr : EvS g sc n σ μ₁ r (.int b) μ₂) (hb : b ≠ 0) :
    EvS g sc n σ μ (.BinOp l .Mod r pos) (.int (a.fmod b)) μ₂ :=
  EvS.bin hl hr fun A va vb s I Q E _ ra rb _ k => by cases ra; cases rb; exact PyProof.Rows.mod_int' hb (k _ _ (.int _ _))

theorem EvS.neg {x : Expr} {pos : Pos} {a : Int} (hx : EvS g sc n σ μ x (.int a) μ₁) : EvS g sc n σ μ (.UnaryOp .USub x pos) (.int (-a)) μ₁ := by
  intro c hsc R s I F M Q E k
  refine wpAny_UnaryOp (hx c hsc R s I F M _ _ fun v s₁ I₁ T₁ r₁ => ?_)
  cases r₁
  exact PyProof.Rows.neg_int (k _ _ I₁ T₁.tok (.int _ _))

/-! comparisons -/
/-- what a comparison of two data gives -/
def CmpS (g : Gl) (n : Nat) (μ : Mu) (op : CmpOp) (a b : D) (r : Bool) : Prop :=
  ∀ (A : Around) (va vb : Value) (s : Shared) (I : Imm) (Q E : Value → Shared → Prop), A.handled = none → Room A n → Rep I va a → Rep I vb b → MemOk s.heap ⟨I, μ⟩ → (∀ k, Q (.bool r) { s with toks := k }) → wpAny (model g.prog g.w) A (compareOp op va vb) Q E s

theorem cmp_lt {a b : Int} : CmpS g n μ .Lt (.int a) (.int b) (decide (a < b)) := fun A va vb s I Q E _ _ ha hb _ k => by cases ha; cases hb; exact PyProof.Rows.lt_int (k s.toks)
theorem cmp_gt {a b : Int} : CmpS g n μ .Gt (.int a) (.int b) (decide (b < a)) := fun A va vb s I Q E _ _ ha hb _ k => by cases ha; cases hb; exact PyProof.Rows.gt_int (k s.toks)
theorem cmp_le {a b : Int} : CmpS g n μ .LtE (.int a) (.int b) (decide (a ≤ b)) := fun A va vb s I Q E _ _ ha hb _ k => by cases ha; cases hb; exact PyProof.Rows.le_int (k s.toks)
theorem cmp_ge {a b : Int} : CmpS g n μ .GtE (.int a) (.int b) (decide (b ≤ a)) := fun A va vb s I Q E _ _ ha hb _ k => by cases ha; cases hb; exact PyProof.Rows.ge_int (k s.toks)
theorem cmp_eq {a b : Int} : CmpS g n μ .Eq (.int a) (.int b) (a == b) := fun A va vb s I Q E _ _ ha hb _ k => by cases ha; cases hb; exact PyProof.Rows.eq_int (k s.toks)
theorem cmp_ne {a b : Int} : CmpS g n μ .NotEq (.int a) (.int b) (a != b) := fun A va vb s I Q E _ _ ha hb _ k => by cases ha; cases hb; exact PyProof.Rows.ne_int (k s.toks)
def D.isNone : D → Bool
  | .none => true
  | _ => false
theorem cmp_is {a : D} : CmpS g n μ .Is a .none a.isNone := fun A va vb s I Q E _ _ ha hb _ k => by
  cases hb
  refine is_none ?_
  have e : (va == Value.none) = a.isNone := by cases ha <;> rfl
  rw [e]; exact k s.toks

theorem EvS.cmp {l r : Expr} {op : CmpOp} {pos : Pos} {a b : D} {v : Bool} (hl : EvS g sc n σ μ l a μ₁) (hr : EvS g sc n σ μ₁ r b μ₂) (hop : CmpS g n μ₂ op a b v)
    (hm : behindInMarks op r = false := by with_unfolding_all rfl) : EvS g sc n σ μ (.Compare l [op] [r] pos) (.bool v) μ₂ := by
  intro c hsc R s I F M Q E k
  refine wpAny_Compare1 (hl c hsc R s I F M _ _ fun va s₁ I₁ T₁ r₁ => hr c hsc R s₁ I₁ (F.tr T₁) T₁.mem _ _ fun vb s₂ I₂ T₂ r₂ => ?_) hm
  exact hop _ va vb s₂ I₂ _ _ F.handled R (r₁.mono T₂.imm) r₂ T₂.mem fun tk => k _ _ I₂ (T₁.trans T₂).tok (.bool _)
theorem TsS.cmp {l r : Expr} {op : CmpOp} {pos : Pos} {a b : D} {v : Bool} (hl : EvS g sc n σ μ l a μ₁) (hr : EvS g sc n σ μ₁ r b μ₂) (hop : CmpS g n μ₂ op a b v)
    (hm : behindInMarks op r = false := by with_unfolding_all rfl) : TsS g sc n σ μ (.Compare l [op] [r] pos) v μ₂ := by
  intro c hsc R s I F M Q E k
  refine wpAny_isTrue_Compare1 (hl c hsc R s I F M _ _ fun va s₁ I₁ T₁ r₁ => hr c hsc R s₁ I₁ (F.tr T₁) T₁.mem _ _ fun vb s₂ I₂ T₂ r₂ => ?_) hm
  exact hop _ va vb s₂ I₂ _ _ F.handled R (r₁.mono T₂.imm) r₂ T₂.mem fun tk => wpAny_truthy_bool (k _ I₂ (T₁.trans T₂).tok)

/-- a op1 b op2 c -/
theorem EvS.chain {l r₁ r₂ : Expr} {op₁ op₂ : CmpOp} {pos : Pos} {a b b' : D} {v v' : Bool} (hl : EvS g sc n σ μ l a μ) (h1 : EvS g sc n σ μ r₁ b μ) (hop : CmpS g n μ op₁ a b v)
    (h2 : v = true → EvS g sc n σ μ r₂ b' μ) (hop' : CmpS g n μ op₂ b b' v')
    (hm : lastMarks [op₁, op₂] [r₁, r₂] = false := by with_unfolding_all rfl) : EvS g sc n σ μ (.Compare l [op₁, op₂] [r₁, r₂] pos) (.bool (v && v')) μ := by
  intro c hsc R s I F M Q E k
  refine Compare_chain (hl c hsc R s I F M _ _ fun va s₁ I₁ T₁ q₁ => chain_link (h1 c hsc R s₁ I₁ (F.tr T₁) T₁.mem _ _ fun vb s₂ I₂ T₂ q₂ => ?_)) hm
  refine hop _ va vb s₂ I₂ _ _ F.handled R (q₁.mono T₂.imm) q₂ T₂.mem fun tk => wpAny_truthy_bool ?_
  have T := (T₁.trans T₂).tok (k := tk)
  cases hv : v with
  | false => subst hv; exact k _ _ I₂ T (.bool _)
  | true =>
    subst hv
    refine chain_last (h2 rfl c hsc R _ I₂ (F.tr T) T.mem _ _ fun vc s₃ I₃ T₃ q₃ => ?_)
    exact hop' _ vb vc s₃ I₃ _ _ F.handled R (q₂.mono T₃.imm) q₃ T₃.mem fun tk => k _ _ I₃ (T.trans T₃).tok (.bool _)
theorem TsS.chain {l r₁ r₂ : Expr} {op₁ op₂ : CmpOp} {pos : Pos} {a b b' : D} {v v' : Bool} (hl : EvS g sc n σ μ l a μ) (h1 : EvS g sc n σ μ r₁ b μ) (hop : CmpS g n μ op₁ a b v)
    (h2 : v = true → EvS g sc n σ μ r₂ b' μ) (hop' : CmpS g n μ op₂ b b' v')
    (hm : lastMarks [op₁, op₂] [r₁, r₂] = false := by with_unfolding_all rfl) : TsS g sc n σ μ (.Compare l [op₁, op₂] [r₁, r₂] pos) (v && v') μ := by
  intro c hsc R s I F M Q E k
  refine isTrue_chain (hl c hsc R s I F M _ _ fun va s₁ I₁ T₁ q₁ => test_link (h1 c hsc R s₁ I₁ (F.tr T₁) T₁.mem _ _ fun vb s₂ I₂ T₂ q₂ => ?_)) hm
  refine hop _ va vb s₂ I₂ _ _ F.handled R (q₁.mono T₂.imm) q₂ T₂.mem fun tk => wpAny_truthy_bool ?_
  have T := (T₁.trans T₂).tok (k := tk)
  cases hv : v with
  | false => subst hv; exact k _ I₂ T
  | true =>
    subst hv
    refine test_last (h2 rfl c hsc R _ I₂ (F.tr T) T.mem _ _ fun vc s₃ I₃ T₃ q₃ => ?_)
    exact hop' _ vb vc s₃ I₃ _ _ F.handled R (q₂.mono T₃.imm) q₃ T₃.mem fun tk => wpAny_truthy_bool (k _ I₃ (T.trans T₃).tok)

/-! truth -/
theorem TsS.not {x : Expr} {pos : Pos} {b : Bool} (h : TsS g sc n σ μ x b μ₁) : TsS g sc n σ μ (.UnaryOp .Not x pos) (!b) μ₁ := by
  intro c hsc R s I F M Q E k
  exact wpAny_isTrue_Not (h c hsc R s I F M _ _ fun s₁ I₁ T₁ => k s₁ I₁ T₁)
/-- a test that is a call of a def that gives a bool -/
theorem TsS.call {f : Expr} {as : List Expr} {ks : List Keyword} {pos : Pos} {b : Bool} (h : EvS g sc n σ μ (.Call f as ks pos) (.bool b) μ₁) : TsS g sc n σ μ (.Call f as ks pos) b μ₁ := by
  intro c hsc R s I F M Q E k
  refine wpAny_isTrue_value (h c hsc R s I F M _ _ fun v s₁ I₁ T₁ r₁ => ?_) rfl
  cases r₁
  exact wpAny_truthy_bool (k _ I₁ T₁)

def AllS (g : Gl) (sc : Scope) (n : Nat) (σ : Sg) (μ : Mu) (op : BoolOp) (es : List Expr) (b : Bool) (μ' : Mu) : Prop :=
  ∀ (c : Cx), c.ev.scope = sc → Room c.A n → ∀ (s : Shared) (I : Imm), FrOk g c σ s.heap ⟨I, μ⟩ → MemOk s.heap ⟨I, μ⟩ → ∀ (Q : Bool → Shared → Prop) (E : Value → Shared → Prop),
    (∀ s' I', TrF NoP s ⟨I, μ⟩ s' ⟨I', μ'⟩ → Q b s') → wpAny (model g.prog g.w) c.A (allTrue op es c.ev) Q E s
theorem TsS.boolop {op : BoolOp} {es : List Expr} {pos : Pos} {b : Bool} (h : AllS g sc n σ μ op es b μ₁) : TsS g sc n σ μ (.BoolOp op es pos) b μ₁ := by
  intro c hsc R s I F M Q E k
  exact wpAny_isTrue_BoolOp (h c hsc R s I F M _ _ k)
theorem AllS.and2 {x y : Expr} {a b : Bool} (hx : TsS g sc n σ μ x a μ₁) (hy : a = true → TsS g sc n σ μ₁ y b μ₁) : AllS g sc n σ μ .And [x, y] (a && b) μ₁ := by
  intro c hsc R s I F M Q E k
  refine wpAny_allTrue_And_cons (hx c hsc R s I F M _ _ fun s₁ I₁ T₁ => ?_)
  cases a with
  | false => exact k _ I₁ T₁
  | true =>
    refine wpAny_allTrue_And_cons (hy rfl c hsc R s₁ I₁ (F.tr T₁) T₁.mem _ _ fun s₂ I₂ T₂ => ?_)
    cases b with
    | false => exact k _ I₂ (T₁.trans T₂)
    | true => exact wpAny_allTrue_And_nil (k _ I₂ (T₁.trans T₂))
theorem AllS.or2 {x y : Expr} {a b : Bool} (hx : TsS g sc n σ μ x a μ₁) (hy : a = false → TsS g sc n σ μ₁ y b μ₂) (hμ : a = true → μ₁ = μ₂) : AllS g sc n σ μ .Or [x, y] (a || b) μ₂ := by
  intro c hsc R s I F M Q E k
  refine wpAny_allTrue_Or_cons (hx c hsc R s I F M _ _ fun s₁ I₁ T₁ => ?_)
  cases a with
  | true => rw [hμ rfl] at T₁; exact k _ I₁ T₁
  | false =>
    refine wpAny_allTrue_Or_cons (hy rfl c hsc R s₁ I₁ (F.tr T₁) T₁.mem _ _ fun s₂ I₂ T₂ => ?_)
    cases b with
    | true => exact k _ I₂ (T₁.trans T₂)
    | false => exact wpAny_allTrue_Or_nil (k _ I₂ (T₁.trans T₂))

/-- «x and y» as a value, both bools -/
theorem EvS.and2 {x y : Expr} {pos : Pos} {a b : Bool} (hx : EvS g sc n σ μ x (.bool a) μ) (hy : a = true → EvS g sc n σ μ y (.bool b) μ) : EvS g sc n σ μ (.BoolOp .And [x, y] pos) (.bool (a && b)) μ := by
  intro c hsc R s I F M Q E k
  refine wpAny_And2 (hx c hsc R s I F M _ _ fun v s₁ I₁ T₁ r₁ => ?_)
  cases r₁
  refine wpAny_truthy_bool ?_
  cases a with
  | false => exact k _ _ I₁ T₁ (.bool _)
  | true => exact hy rfl c hsc R s₁ I₁ (F.tr T₁) T₁.mem _ _ fun v s₂ I₂ T₂ r₂ => k _ _ I₂ (T₁.trans T₂) r₂

theorem EvS.ifexp {t b o : Expr} {pos : Pos} {v : Bool} {d : D} (ht : TsS g sc n σ μ t v μ₁) (hb : v = true → EvS g sc n σ μ₁ b d μ₂) (ho : v = false → EvS g sc n σ μ₁ o d μ₂) : EvS g sc n σ μ (.IfExp t b o pos) d μ₂ := by
  intro c hsc R s I F M Q E k
  refine wpAny_IfExp (ht c hsc R s I F M _ _ fun s₁ I₁ T₁ => ?_)
  cases v with
  | true => exact hb rfl c hsc R s₁ I₁ (F.tr T₁) T₁.mem _ _ fun v s₂ I₂ T₂ r₂ => k _ _ I₂ (T₁.trans T₂) r₂
  | false => exact ho rfl c hsc R s₁ I₁ (F.tr T₁) T₁.mem _ _ fun v s₂ I₂ T₂ r₂ => k _ _ I₂ (T₁.trans T₂) r₂

/-! items of displays and of calls -/
theorem EvL.nil {pos : Pos} : EvL g sc n σ μ pos [] [] μ := by
  intro c hsc R s I F M Q E k
  exact wpAny_items_nil (k _ _ I (TrF.refl M) .nil)
theorem EvL.cons {pos : Pos} {e : Expr} {es : List Expr} {d : D} {ds : List D} (he : EvS g sc n σ μ e d μ₁) (hs : EvL g sc n σ μ₁ pos es ds μ₂)
    (hst : ∀ env, starEach (e :: es) env = (false, eval e env) :: starEach es env := by intro _; rfl) : EvL g sc n σ μ pos (e :: es) (d :: ds) μ₂ := by
  intro c hsc R s I F M Q E k
  refine wpAny_items_cons (he c hsc R s I F M _ _ fun v s₁ I₁ T₁ r₁ => hs c hsc R s₁ I₁ (F.tr T₁) T₁.mem _ _ fun vs s₂ I₂ T₂ r₂ => ?_) (hst _)
  exact k _ _ I₂ (T₁.trans T₂) (.cons (r₁.mono T₂.imm) r₂)

/-- a fresh fixed object -/
theorem MemOk.fresh {h : Heap} {W : Wd} (M : MemOk h W) {a : Addr} (ha : h.get? a = none) : W.I a = none ∧ W.μ a = none := by
  refine ⟨?_, ?_⟩
  · cases e : W.I a with
    | none => rfl
    | some o => rw [M.imm a o e] at ha; cases ha
  · cases e : W.μ a with
    | none => rfl
    | some ds => obtain ⟨vs, ⟨k, hk⟩, _⟩ := M.mu a ds e; rw [hk] at ha; cases ha

def Imm.put (I : Imm) (a : Addr) (o : Obj) : Imm := fun b => if b = a then some o else I b
theorem Imm.put_self (I : Imm) (a : Addr) (o : Obj) : I.put a o a = some o := by simp [Imm.put]
theorem Imm.put_sub {I : Imm} {a : Addr} {o : Obj} (h : I a = none) : I.Sub (I.put a o) := fun b o' e => by
  unfold Imm.put
  by_cases q : b = a
  · subst q; rw [h] at e; cases e
  · rw [if_neg q]; exact e

theorem Heap.get_size (h : Heap) : h.get? h.objs.size = none := by
  cases e : h.get? h.objs.size with
  | none => rfl
  | some o => exact absurd (Heap.lt_size e) (Nat.lt_irrefl _)

/-- a step that lays a new fixed object, whatever else is new -/
theorem TrF.lay {P : Addr → Prop} {s : Shared} {I : Imm} {μ : Mu} (M : MemOk s.heap ⟨I, μ⟩) {h' : Heap} {k : Nat} {a : Addr} {o : Obj} (hk : ∀ b o, s.heap.get? b = some o → h'.get? b = some o)
    (ha : s.heap.get? a = none) (ho : h'.get? a = some o) : TrF P s ⟨I, μ⟩ { s with heap := h', toks := k } ⟨I.put a o, μ⟩ := by
  have fr := M.fresh ha
  have sub : I.Sub (I.put a o) := Imm.put_sub fr.1
  refine ⟨⟨_, _, rfl⟩, fun b o' e _ _ => hk b o' e, fun b e => ?_, sub, fun b e => ?_, fun b e => .inl e, ⟨fun b o' e => ?_, fun b ds e => ?_, fun b e => ?_⟩⟩
  · cases q : s.heap.get? b with
    | none => exact absurd q e
    | some o' => show h'.get? b ≠ none; rw [hk b o' q]; simp
  · by_cases q : b = a
    · subst q; exact .inr (.inl ha)
    · refine .inl ?_
      simpa [Imm.put, q] using e
  · have e : I.put a o b = some o' := e
    by_cases q : b = a
    · subst q; rw [Imm.put_self] at e; cases e; exact ho
    · exact hk b o' (M.imm b o' (by simpa [Imm.put, q] using e))
  · obtain ⟨vs, ⟨m, hm⟩, r⟩ := M.mu b ds e
    exact ⟨vs, ⟨m, hk b _ hm⟩, r.mono sub⟩
  · have : b ≠ a := fun q => by subst q; exact e fr.2
    simpa [Imm.put, this] using M.apart b e

theorem EvS.tuple {es : List Expr} {k : Nat} {pos : Pos} {ds : List D} (h : EvL g sc n σ μ pos es ds μ₁) (hsz : ds.length ≤ 1000) : EvS g sc n σ μ (.Tuple es k pos) (.tup ds) μ₁ := by
  intro c hsc R s I F M Q E K
  refine wpAny_Tuple (h c hsc R s I F M _ _ fun vs s₁ I₁ T₁ r₁ => ⟨?_, ?_⟩)
  · rw [sizeLine_eq, r₁.length]; omega
  · have T := TrF.lay (P := NoP) T₁.mem (k := s₁.toks) (fun b o e => Heap.get?_push_of_some { cls := .type "tuple", data := .seq vs.toArray } e) (Heap.get_size _) (Heap.get?_push_size _ rfl)
    exact K _ _ _ (T₁.trans T) (.tup (Imm.put_self ..) (r₁.mono T.imm))
theorem EvS.list {es : List Expr} {pos : Pos} {ds : List D} (h : EvL g sc n σ μ pos es ds μ₁) (hsz : ds.length ≤ 1000) : EvS g sc n σ μ (.List es pos) (.lst ds) μ₁ := by
  intro c hsc R s I F M Q E K
  refine wpAny_List (h c hsc R s I F M _ _ fun vs s₁ I₁ T₁ r₁ => ⟨?_, ?_⟩)
  · rw [sizeLine_eq, r₁.length]; omega
  · have T := TrF.lay (P := NoP) T₁.mem (k := s₁.toks) (fun b o e => Heap.get?_push_of_some { cls := .type "list", data := .seq vs.toArray } e) (Heap.get_size _) (Heap.get?_push_size _ rfl)
    exact K _ _ _ (T₁.trans T) (.lst (Imm.put_self ..) rfl rfl (r₁.mono T.imm))
end
-- part L3
section
variable {g : Gl} {sc : Scope} {n : Nat} {σ : Sg} {μ μ₁ μ₂ μ₃ : Mu}

/-! items -/
theorem EvS.item {value slice : Expr} {pos : Pos} {ds : List D} {i : Int} {d : D} {j : Nat} (hv : EvS g sc n σ μ value (.tup ds) μ₁ ∨ EvS g sc n σ μ value (.lst ds) μ₁) (hi : EvS g sc n σ μ₁ slice (.int i) μ₂)
    (hj : seqIndex? i ds.length = some j) (hx : ds[j]? = some d) (hlo : -(2 ^ 62) < i) (hhi : i < 2 ^ 62) 
    (hs : ∀ (a : Addr) (u : Tok), subscripted slice false (.ref a) (.int i u) = operate [.ref a, .int i u] (getItem (.ref a) (.int i u)) := by intro _ _; with_unfolding_all rfl) :
    EvS g sc n σ μ (.Subscript value slice pos) d μ₂ := by
  intro c hsc R s I F M Q E k
  rcases hv with hv | hv
  · refine Subscript_ (hv c hsc R s I F M _ _ fun va s₁ I₁ T₁ q₁ => hi c hsc R s₁ I₁ (F.tr T₁) T₁.mem _ _ fun vb s₂ I₂ T₂ q₂ => ?_)
    cases q₂ with
    | int _ u =>
    have q := q₁.mono T₂.imm
    cases q with
    | tup hI hr =>
    obtain ⟨v, hv', rv⟩ := hr.get j d hx
    refine item_tupleT ⟨_, T₂.mem.imm _ _ hI, rfl, _, rfl⟩ (by omega) (by omega) (by rw [hr.length]; exact hj) hv' (k _ _ I₂ (T₁.trans T₂) rv) (hs _ _)
  · refine Subscript_ (hv c hsc R s I F M _ _ fun va s₁ I₁ T₁ q₁ => hi c hsc R s₁ I₁ (F.tr T₁) T₁.mem _ _ fun vb s₂ I₂ T₂ q₂ => ?_)
    cases q₂ with
    | int _ u =>
    have q := q₁.mono T₂.imm
    cases q with
    | lst hI hc hd hr =>
    obtain ⟨v, hv', rv⟩ := hr.get j d hx
    have hl : s₂.heap.IsList _ _ := ⟨_, T₂.mem.imm _ _ hI, hc, _, hd⟩
    have fin : Q v s₂ := k _ _ I₂ (T₁.trans T₂) rv
    have hlen := hr.length
    refine tail_any hl.typeIs slot_list_getitem.lookup ?_ (hs _ _)
    unfold seqIndex? at hj
    by_cases h0 : i < 0
    · simp only [h0, if_true] at hj
      split at hj
      · rename_i hh
        cases hj
        simp only [Bool.and_eq_true, decide_eq_true_eq] at hh
        refine wpAny_getItem_list_neg hl h0 ?_ (by omega) ?_ fin
        · rw [List.size_toArray, hlen]; omega
        · rw [List.size_toArray, hlen]; simpa using hv'
      · cases hj
    · simp only [h0, if_false] at hj
      split at hj
      · rename_i hh
        cases hj
        exact wpAny_getItem_list hl (by omega) (by omega) (by simpa using hv') fin
      · cases hj
/-- an item of a list at hand -/
theorem EvS.itemM {value slice : Expr} {pos : Pos} {a : Addr} {ds : List D} {i : Int} {d : D} {j : Nat} (hv : EvS g sc n σ μ value (.mref a) μ₁) (hi : EvS g sc n σ μ₁ slice (.int i) μ₂) (hm : μ₂ a = some ds)
    (hj : seqIndex? i ds.length = some j) (hx : ds[j]? = some d) (hlo : -(2 ^ 62) < i) (hhi : i < 2 ^ 62) 
    (hs : ∀ (a : Addr) (u : Tok), subscripted slice false (.ref a) (.int i u) = operate [.ref a, .int i u] (getItem (.ref a) (.int i u)) := by intro _ _; with_unfolding_all rfl) :
    EvS g sc n σ μ (.Subscript value slice pos) d μ₂ := by
  intro c hsc R s I F M Q E k
  refine Subscript_ (hv c hsc R s I F M _ _ fun va s₁ I₁ T₁ q₁ => hi c hsc R s₁ I₁ (F.tr T₁) T₁.mem _ _ fun vb s₂ I₂ T₂ q₂ => ?_)
  cases q₂ with
  | int _ u =>
  cases q₁
  obtain ⟨vs, ⟨m, hm'⟩, hr⟩ := T₂.mem.mu _ _ hm
  obtain ⟨v, hv', rv⟩ := hr.get j d hx
  have hl : s₂.heap.IsList a vs.toArray := ⟨_, hm', rfl, _, rfl⟩
  have fin : Q v s₂ := k _ _ I₂ (T₁.trans T₂) rv
  have hlen := hr.length
  refine tail_any hl.typeIs slot_list_getitem.lookup ?_ (hs _ _)
  unfold seqIndex? at hj
  by_cases h0 : i < 0
  · simp only [h0, if_true] at hj
    split at hj
    · rename_i hh
      cases hj
      simp only [Bool.and_eq_true, decide_eq_true_eq] at hh
      refine wpAny_getItem_list_neg hl h0 ?_ (by omega) ?_ fin
      · rw [List.size_toArray, hlen]; omega
      · rw [List.size_toArray, hlen]; simpa using hv'
    · cases hj
  · simp only [h0, if_false] at hj
    split at hj
    · rename_i hh
      cases hj
      exact wpAny_getItem_list hl (by omega) (by omega) (by simpa using hv') fin
    · cases hj

/-- xs[::-1] -/
theorem EvS.rev {value : Expr} {p p1 p2 pos : Pos} {k0 : Nat} {ds : List D} (hv : EvS g sc n σ μ value (.lst ds) μ₁) (hsz : ds.length ≤ 1000) :
    EvS g sc n σ μ (.Subscript value (.Slice none none (some (.UnaryOp .USub (.Constant (.int 1) k0 p1) p2)) p) pos) (.lst ds.reverse) μ₁ := by
  intro c hsc R s I F M Q E k
  refine Subscript_ (hv c hsc R s I F M _ _ fun va s₁ I₁ T₁ q₁ => ?_)
  cases q₁ with
  | lst hI hc hd hr =>
  rename_i a _ _ vs
  refine wpAny_Slice ?_
  refine wpAny_evalPart_none (wpAny_evalPart_none (wpAny_evalPart_some ?_))
  refine wpAny_UnaryOp (wpAny_Constant_int (PyProof.Rows.neg_int ?_))
  have hl : s₁.heap.IsList a _ := ⟨_, T₁.mem.imm _ _ hI, hc, _, hd⟩
  have hlen := hr.length
  refine tail_any (hl.push _).typeIs slot_list_getitem.lookup (wpAny_getItem_list_slice (hl.push _) (Heap.IsSliceOf.new ..) .none .none (.int _ _) (by decide) ?_ ?_) rfl
  · rw [krv_pick]
    have T := TrF.lay (P := NoP) T₁.mem (k := s₁.toks + 1 + 1) (h' := ((s₁.heap.push { cls := .type "slice", data := .fields #[.none, .none, .int (-1) (s₁.toks + 1)] }).push { cls := .type "list", data := .seq vs.reverse.toArray }))
      (fun b o e => Heap.get?_push_of_some _ (Heap.get?_push_of_some _ e)) (a := (s₁.heap.push { cls := .type "slice", data := .fields #[.none, .none, .int (-1) (s₁.toks + 1)] }).objs.size) (Heap.get?_none_of_le (by rw [Heap.size_push]; omega)) (Heap.get?_push_size _ rfl)
    exact k _ _ _ (T₁.trans T) (.lst (Imm.put_self ..) rfl rfl (hr.mono T.imm).reverse)
  · rw [List.size_toArray, hlen, sizeLine_eq]; omega
end
-- part L4
theorem Reps.one {I : Imm} {vs : List Value} {d : D} (r : Reps I vs [d]) : ∃ v, vs = [v] ∧ Rep I v d := by
  cases r with
  | cons h t => cases t; exact ⟨_, rfl, h⟩
theorem Reps.two {I : Imm} {vs : List Value} {d e : D} (r : Reps I vs [d, e]) : ∃ v u, vs = [v, u] ∧ Rep I v d ∧ Rep I u e := by
  cases r with
  | cons h t => obtain ⟨u, rfl, h'⟩ := Reps.one t; exact ⟨_, u, rfl, h, h'⟩
/-- a call of the value f -/
def CallS (g : Gl) (n : Nat) (μ : Mu) (f : Value) (ds : List D) (d : D) (μ' : Mu) : Prop :=
  ∀ (c : Cx), Room c.A n → ∀ (σ : Sg) (s : Shared) (I : Imm), FrOk g c σ s.heap ⟨I, μ⟩ → MemOk s.heap ⟨I, μ⟩ → ∀ (vs : List Value), Reps I vs ds → ∀ (Q E : Value → Shared → Prop),
    (∀ v s' I', TrF NoP s ⟨I, μ⟩ s' ⟨I', μ'⟩ → Rep I' v d → Q v s') → wpAny (model g.prog g.w) c.A (call f vs) Q E s

inductive GName (g : Gl) (x : Str) (f : Value) : Prop
  | top : nsIn g.K mainGlobals x = some (some f) → keepIn g.K f = true → GName g x f
  | builtin {id : String} : nsIn g.K mainGlobals x = some none → bootBuiltins x = some f → x ≠ "__name__" → f = .builtin id → GName g x f
  | type {id : String} : nsIn g.K mainGlobals x = some none → bootBuiltins x = some f → x ≠ "__name__" → f = .type id → GName g x f

section
variable {g : Gl} {sc : Scope} {n : Nat} {σ : Sg} {μ μ₁ μ₂ μ₃ : Mu}

theorem EvS.call {x : Str} {p pos : Pos} {e : Expr} {es : List Expr} {f : Value} {ds : List D} {d : D} (hf : GName g x f) (hx : sc.names.lookup x = some .globalImplicit)
    (ha : EvL g sc n σ μ pos (e :: es) ds μ₁) (hc : CallS g n μ₁ f ds d μ₂) (hd : (x == ("__debug__" : Str)) = false := by decide)
    (he : ∀ env, starEach (e :: es) env = (false, eval e env) :: starEach es env := by intro _; rfl) (hp : ∀ env, (backTo pos (starEach es env)).any (·.1) = false := by intro _; rfl) :
    EvS g sc n σ μ (.Call (.Name x p) (e :: es) [] pos) d μ₂ := by
  intro c hsc R s I F M Q E k
  obtain ⟨m, fr⟩ := F.fr
  have G := F.top.g.keeps fr.keep
  have B := F.top.b.keeps fr.keep
  have hx' : c.ev.kindOf x = some .globalImplicit := by unfold Env.kindOf; rw [hsc]; exact hx
  have tail : wpAny (model g.prog g.w) c.A (spliced (backTo pos (starEach (e :: es) c.ev))) (fun vs s₁ => g.K.In s₁.heap ∧ wpAny (model g.prog g.w) c.A (PySem.call f vs) Q E s₁) E s := by
    refine ha c hsc R s I F M _ _ fun vs s₁ I₁ T₁ r₁ => ⟨?_, ?_⟩
    · obtain ⟨m₁, fr₁⟩ := (F.tr T₁).fr
      exact F.kin.keeps fr₁.keep
    · exact hc c R σ s₁ I₁ (F.tr T₁) T₁.mem vs r₁ _ _ fun v s₂ I₂ T₂ r₂ => k v s₂ I₂ (T₁.trans T₂) r₂
  refine Call_Name rfl ?_
  cases hf with
  | top h1 h2 =>
    refine Name_function_global F.ek hx' (loadGlobal_global (env := c.ev) (by rw [F.eg]; exact G) (mg_of F.kin F.top.g h1) ?_) hd
    exact callWith_K F.kin h2 tail (he _) (hp _)
  | builtin h1 h2 h3 h4 =>
    subst h4
    refine Name_function_global F.ek hx' (loadGlobal_builtin (env := c.ev) (by rw [F.eg]; exact G) (mg_none_of F.kin F.top.g h1) (by rw [F.eb]; exact B) ((F.top.builtins x h3).trans h2) ?_) hd
    exact PyProof.Rows.callWith_builtin1 (wpAny_mono tail (fun _ _ h => h.2) fun _ _ h => h) (he _) (hp _)
  | type h1 h2 h3 h4 =>
    subst h4
    refine Name_function_global F.ek hx' (loadGlobal_builtin (env := c.ev) (by rw [F.eg]; exact G) (mg_none_of F.kin F.top.g h1) (by rw [F.eb]; exact B) ((F.top.builtins x h3).trans h2) ?_) hd
    exact PyProof.Rows.callWith_type1 (wpAny_mono tail (fun _ _ h => h.2) fun _ _ h => h) (he _) (hp _)

/-- memory only grows, the data stay -/
theorem TrF.grow {P : Addr → Prop} {s : Shared} {I : Imm} {μ : Mu} (M : MemOk s.heap ⟨I, μ⟩) {h' : Heap} {k : Nat} (hk : ∀ b o, s.heap.get? b = some o → h'.get? b = some o) : TrF P s ⟨I, μ⟩ { s with heap := h', toks := k } ⟨I, μ⟩ := by
  refine ⟨⟨_, _, rfl⟩, fun b o' e _ _ => hk b o' e, fun b e => ?_, fun _ _ e => e, fun b e => .inl e, fun b e => .inl e, ⟨fun b o' e => hk b o' (M.imm b o' e), fun b ds e => ?_, M.apart⟩⟩
  · cases q : s.heap.get? b with
    | none => exact absurd q e
    | some o' => show h'.get? b ≠ none; rw [hk b o' q]; simp
  · obtain ⟨vs, ⟨m, hm⟩, r⟩ := M.mu b ds e
    exact ⟨vs, ⟨m, hk b _ hm⟩, r⟩

theorem call_abs {a : Int} : CallS g n μ (.builtin "abs") [.int a] (.int (if a < 0 then -a else a)) μ := by
  intro c R σ s I F M vs r Q E k
  obtain ⟨v, rfl, hv⟩ := r.one
  cases hv
  exact call_abs_int fun u tk => k _ _ I (TrF.refl M).tok (.int _ _)
theorem call_max2 {a b : Int} : CallS g n μ (.builtin "max") [.int a, .int b] (.int (max a b)) μ := by
  intro c R σ s I F M vs r Q E k
  obtain ⟨v, u, rfl, hv, hu⟩ := r.two
  cases hv; cases hu
  exact max_two_ints F.handled fun h' tk hk => by
    refine k _ _ I (TrF.grow M hk) ?_
    by_cases c : b > a
    · rw [if_pos c, show max a b = b by omega]; exact .int _ _
    · rw [if_neg c, show max a b = a by omega]; exact .int _ _
theorem call_min2 {a b : Int} : CallS g n μ (.builtin "min") [.int a, .int b] (.int (min a b)) μ := by
  intro c R σ s I F M vs r Q E k
  obtain ⟨v, u, rfl, hv, hu⟩ := r.two
  cases hv; cases hu
  exact min_two_ints F.handled fun h' tk hk => by
    refine k _ _ I (TrF.grow M hk) ?_
    by_cases c : b < a
    · rw [if_pos c, show min a b = b by omega]; exact .int _ _
    · rw [if_neg c, show min a b = a by omega]; exact .int _ _

theorem Reps.ints {I : Imm} : ∀ {vs : List Value} {ns : List Int}, Reps I vs (ns.map .int) → IntsAre vs ns
  | vs, [], r => by cases r; exact .nil
  | vs, n :: ns, r => by
    cases r with | cons h t => cases h; exact .cons _ _ (Reps.ints t)

theorem call_minL {ns : List Int} {m : Int} (hm : m ∈ ns) (hle : ∀ a ∈ ns, m ≤ a) : CallS g n μ (.builtin "min") [.lst (ns.map .int)] (.int m) μ := by
  intro c R σ s I F M vs r Q E k
  obtain ⟨v, rfl, hv⟩ := r.one
  cases hv with
  | @lst a0 o0 n0 ws _ hI hc hd hr =>
  have hl : s.heap.IsList _ _ := ⟨_, M.imm _ _ hI, hc, _, hd⟩
  have hi := Reps.ints hr
  obtain ⟨xs, e⟩ := hi.allInts.items
  have hns : ns = xs.toList.map (·.1) := by rw [← hi.numsOf, ← nums_intItems, ← e]
  have hne : 0 < ns.length := List.length_pos_of_mem hm
  have hsz : 0 < xs.size := by
    have h3 := hne; rw [hns, List.length_map, Array.length_toList] at h3; exact h3
  rw [e] at hl
  refine min_intList F.handled hl hsz fun v h' tk hv hk => ?_
  obtain ⟨t, rfl⟩ := intItems_at hv
  obtain ⟨h1, h2⟩ := argBest_lt (numAt xs) (xs.size - 1)
  have hin : numAt xs (argBest (fun i j => decide (numAt xs i < numAt xs j)) (xs.size - 1)) ∈ ns := by
    rw [hns, numAt_eq]; exact getD_mem (by rw [List.length_map, Array.length_toList]; omega)
  have hall : ∀ a ∈ ns, numAt xs (argBest (fun i j => decide (numAt xs i < numAt xs j)) (xs.size - 1)) ≤ a := fun a ha => by
    rw [hns] at ha
    obtain ⟨j, hj, rfl⟩ := mem_getD ha
    rw [List.length_map, Array.length_toList] at hj
    rw [← numAt_eq]; exact h2 j (by omega)
  have eq := Int.le_antisymm (hall m hm) (hle _ hin)
  rw [eq]
  exact k _ _ I (TrF.grow M hk) (.int _ _)
theorem call_maxL {ns : List Int} {m : Int} (hm : m ∈ ns) (hle : ∀ a ∈ ns, a ≤ m) : CallS g n μ (.builtin "max") [.lst (ns.map .int)] (.int m) μ := by
  intro c R σ s I F M vs r Q E k
  obtain ⟨v, rfl, hv⟩ := r.one
  cases hv with
  | @lst a0 o0 n0 ws _ hI hc hd hr =>
  have hl : s.heap.IsList _ _ := ⟨_, M.imm _ _ hI, hc, _, hd⟩
  have hi := Reps.ints hr
  obtain ⟨xs, e⟩ := hi.allInts.items
  have hns : ns = xs.toList.map (·.1) := by rw [← hi.numsOf, ← nums_intItems, ← e]
  have hne : 0 < ns.length := List.length_pos_of_mem hm
  have hsz : 0 < xs.size := by
    have h3 := hne; rw [hns, List.length_map, Array.length_toList] at h3; exact h3
  rw [e] at hl
  refine max_intList F.handled hl hsz fun v h' tk hv hk => ?_
  obtain ⟨t, rfl⟩ := intItems_at hv
  obtain ⟨h1, h2⟩ := argBest_gt (numAt xs) (xs.size - 1)
  have hin : numAt xs (argBest (fun i j => decide (numAt xs i > numAt xs j)) (xs.size - 1)) ∈ ns := by
    rw [hns, numAt_eq]; exact getD_mem (by rw [List.length_map, Array.length_toList]; omega)
  have hall : ∀ a ∈ ns, a ≤ numAt xs (argBest (fun i j => decide (numAt xs i > numAt xs j)) (xs.size - 1)) := fun a ha => by
    rw [hns] at ha
    obtain ⟨j, hj, rfl⟩ := mem_getD ha
    rw [List.length_map, Array.length_toList] at hj
    rw [← numAt_eq]; exact h2 j (by omega)
  have eq := Int.le_antisymm (hle _ hin) (hall m hm)
  rw [eq]
  exact k _ _ I (TrF.grow M hk) (.int _ _)

theorem call_intb {b : Bool} : CallS g n μ (.type "int") [.bool b] (.int (if b then 1 else 0)) μ := by
  intro c R σ s I F M vs r Q E k
  obtain ⟨v, rfl, hv⟩ := r.one
  cases hv
  exact call_int_bool (k _ _ I (TrF.refl M).tok (.int _ _))
theorem call_inti {a : Int} : CallS g n μ (.type "int") [.int a] (.int a) μ := by
  intro c R σ s I F M vs r Q E k
  obtain ⟨v, rfl, hv⟩ := r.one
  cases hv
  exact call_int_int (k _ _ I (TrF.refl M) (.int _ _))

theorem call_lenT {ds : List D} (hl : ds.length ≤ 1000) : CallS g n μ (.builtin "len") [.tup ds] (.int ds.length) μ := by
  intro c R σ s I F M vs r Q E k
  obtain ⟨v, rfl, hv⟩ := r.one
  cases hv with
  | @tup a0 n0 ws _ hI hr =>
  have := hr.length
  refine PyProof.Rows.len_tuple ⟨_, M.imm _ _ hI, rfl, _, rfl⟩ (by rw [List.size_toArray]; omega) ?_
  rw [List.size_toArray, hr.length]
  exact k _ _ I (TrF.refl M).tok (.int _ _)
theorem call_lenL {ds : List D} (hl : ds.length ≤ 1000) : CallS g n μ (.builtin "len") [.lst ds] (.int ds.length) μ := by
  intro c R σ s I F M vs r Q E k
  obtain ⟨v, rfl, hv⟩ := r.one
  cases hv with
  | @lst a0 o0 n0 ws _ hI hc hd hr =>
  have := hr.length
  refine PyProof.Rows.len_list ⟨_, M.imm _ _ hI, hc, _, hd⟩ (by rw [List.size_toArray]; omega) ?_
  rw [List.size_toArray, hr.length]
  exact k _ _ I (TrF.refl M).tok (.int _ _)

theorem call_range1 {m : Nat} : CallS g n μ (.type "range") [.int m] (.rng 0 m) μ := by
  intro c R σ s I F M vs r Q E k
  obtain ⟨v, rfl, hv⟩ := r.one
  cases hv
  refine call_range_1 ?_
  exact k _ _ _ (TrF.lay (P := NoP) M (fun b o e => Heap.get?_push_of_some _ e) (Heap.get_size _) (Heap.get?_push_size _ rfl)) (.rng (Imm.put_self ..) (.inl (by omega)))
theorem call_range2 {a b : Int} {m : Nat} (hb : b = a + m) : CallS g n μ (.type "range") [.int a, .int b] (.rng a m) μ := by
  intro c R σ s I F M vs r Q E k
  obtain ⟨v, u, rfl, hv, hu⟩ := r.two
  cases hv; cases hu
  refine call_range_2 ?_
  exact k _ _ _ (TrF.lay (P := NoP) M (fun b o e => Heap.get?_push_of_some _ e) (Heap.get_size _) (Heap.get?_push_size _ rfl)) (.rng (Imm.put_self ..) (.inl hb))

theorem call_range2E {a b : Int} (hb : b ≤ a) (h : -1000 ≤ b) : CallS g n μ (.type "range") [.int a, .int b] (.rng a 0) μ := by
  intro c R σ s I F M vs r Q E k
  obtain ⟨v, u, rfl, hv, hu⟩ := r.two
  cases hv; cases hu
  refine call_range_2 ?_
  exact k _ _ _ (TrF.lay (P := NoP) M (fun b o e => Heap.get?_push_of_some _ e) (Heap.get_size _) (Heap.get?_push_size _ rfl)) (.rng (Imm.put_self ..) (.inr ⟨rfl, hb, h⟩))

theorem call_tupT {ds : List D} : CallS g n μ (.type "tuple") [.tup ds] (.tup ds) μ := by
  intro c R σ s I F M vs r Q E k
  obtain ⟨v, rfl, hv⟩ := r.one
  cases hv with
  | @tup a0 n0 ws _ hI hr =>
  exact call_tuple_same ⟨_, M.imm _ _ hI, rfl, _, rfl⟩ (k _ _ I (TrF.refl M) (.tup hI hr))
theorem call_tupL {ds : List D} (hl : ds.length ≤ 1000) : CallS g n μ (.type "tuple") [.lst ds] (.tup ds) μ := by
  intro c R σ s I F M vs r Q E k
  obtain ⟨v, rfl, hv⟩ := r.one
  cases hv with
  | @lst a0 o0 n0 ws _ hI hc hd hr =>
  have := hr.length
  refine call_tuple_list ⟨_, M.imm _ _ hI, hc, _, hd⟩ (fun h' hk => ?_) (by rw [List.size_toArray, hr.length, sizeLine_eq]; omega)
  have hlt : ∀ b o, s.heap.get? b = some o → h'.get? b = some o := hk
  have none : s.heap.get? h'.objs.size = none := by
    cases e : s.heap.get? h'.objs.size with
    | none => rfl
    | some o => exact absurd (Heap.lt_size (hk _ _ e)) (Nat.lt_irrefl _)
  have T := TrF.lay (P := NoP) M (k := s.toks) (h' := h'.push { cls := .type "tuple", data := .seq ws.toArray }) (fun b o e => Heap.get?_push_of_some _ (hk b o e)) none (Heap.get?_push_size _ rfl)
  exact k _ _ _ T (.tup (Imm.put_self ..) (hr.mono T.imm))
/-- tuple(xs) of a list at hand -/
theorem call_tupM {a : Addr} {ds : List D} (hm : μ a = some ds) (hl : ds.length ≤ 1000) : CallS g n μ (.type "tuple") [.mref a] (.tup ds) μ := by
  intro c R σ s I F M vs r Q E k
  obtain ⟨v, rfl, hv⟩ := r.one
  cases hv
  obtain ⟨ws, ⟨m, hm'⟩, hr⟩ := M.mu _ _ hm
  have := hr.length
  refine call_tuple_list ⟨_, hm', rfl, _, rfl⟩ (fun h' hk => ?_) (by rw [List.size_toArray, hr.length, sizeLine_eq]; omega)
  have none : s.heap.get? h'.objs.size = none := by
    cases e : s.heap.get? h'.objs.size with
    | none => rfl
    | some o => exact absurd (Heap.lt_size (hk _ _ e)) (Nat.lt_irrefl _)
  have T := TrF.lay (P := NoP) M (k := s.toks) (h' := h'.push { cls := .type "tuple", data := .seq ws.toArray }) (fun b o e => Heap.get?_push_of_some _ (hk b o e)) none (Heap.get?_push_size _ rfl)
  exact k _ _ _ T (.tup (Imm.put_self ..) (hr.mono T.imm))
theorem call_lstT {ds : List D} (hl : ds.length ≤ 1000) : CallS g n μ (.type "list") [.tup ds] (.lst ds) μ := by
  intro c R σ s I F M vs r Q E k
  obtain ⟨v, rfl, hv⟩ := r.one
  cases hv with
  | @tup a0 n0 ws _ hI hr =>
  have := hr.length
  refine call_list_seq _ (.inr rfl) (M.imm _ _ hI) rfl rfl (fun h' c' hk hD => ?_) (by rw [List.size_toArray, hr.length, sizeLine_eq]; omega)
  have T := TrF.lay (P := NoP) M (k := s.toks) hk (Heap.get_size _) hD
  exact k _ _ _ T (.lst (Imm.put_self ..) rfl rfl (hr.mono T.imm))

/-- xs + ys -/
theorem EvS.cat {l r : Expr} {pos : Pos} {a b : List D} (hl : EvS g sc n σ μ l (.lst a) μ₁) (hr : EvS g sc n σ μ₁ r (.lst b) μ₂) (hsz : a.length + b.length ≤ 1000) : EvS g sc n σ μ (.BinOp l .Add r pos) (.lst (a ++ b)) μ₂ := by
  intro c hsc R s I F M Q E k
  refine wpAny_BinOp (hl c hsc R s I F M _ _ fun va s₁ I₁ T₁ q₁ => hr c hsc R s₁ I₁ (F.tr T₁) T₁.mem _ _ fun vb s₂ I₂ T₂ q₂ => ?_)
  have q := q₁.mono T₂.imm
  cases q with | @lst l o n0 vs _ hI hc hd hr' =>
  cases q₂ with | @lst l2 o2 n2 ws _ hI2 hc2 hd2 hr2 =>
  have ho := T₂.mem.imm _ _ hI
  have ho2 := T₂.mem.imm _ _ hI2
  obtain ⟨cls, dd, data, sl⟩ := o
  obtain ⟨cls2, dd2, data2, sl2⟩ := o2
  simp only at hc hd hc2 hd2
  subst hc hd hc2 hd2
  have h1 := hr'.length
  have h2 := hr2.length
  have e : vs.toArray ++ ws.toArray = (vs ++ ws).toArray := by simp
  refine concat_meets ⟨_, ho, rfl⟩ ⟨_, ho2, rfl⟩ noFill_list_add seq_list_add PySem.F.slot_list_add PySem.F.entry_list_add (PySem.F.args_list_add_2 _ _) (list_addW l l2 vs.toArray ws.toArray n0 n2 dd dd2 sl sl2 (by simp only [List.size_toArray, sizeLine_eq]; omega)) ⟨ho, ho2, ?_⟩
  rw [e]
  have T := TrF.lay (P := NoP) T₂.mem (k := s₂.toks) (fun b o e => Heap.get?_push_of_some { cls := .type "list", data := .seq (vs ++ ws).toArray } e) (Heap.get_size _) (Heap.get?_push_size _ rfl)
  exact k _ _ _ ((T₁.trans T₂).trans T) (.lst (Imm.put_self ..) rfl rfl ((hr'.append hr2).mono T.imm))
end
-- part L5
def Sg.put (x : Str) (d : D) : Sg → Sg
  | [] => [(x, d)]
  | (y, e) :: r => if y == x then (x, d) :: r else (y, e) :: Sg.put x d r

theorem lookup_put (x : Str) (d : D) (y : Str) : ∀ σ : Sg, (Sg.put x d σ).lookup y = if y == x then some d else σ.lookup y
  | [] => by
    unfold Sg.put
    rw [List.lookup_cons]
    cases h : y == x <;> rfl
  | (z, e) :: r => by
    unfold Sg.put
    by_cases hz : (z == x) = true
    · rw [if_pos hz]
      have : z = x := beq_iff_eq.mp hz
      subst this
      rw [List.lookup_cons, List.lookup_cons]
      cases h : y == z <;> rfl
    · rw [if_neg hz, List.lookup_cons, List.lookup_cons, lookup_put x d y r]
      cases h : y == z with
      | true =>
        have : y = z := beq_iff_eq.mp h
        subst this
        simp only [hz]; rfl
      | false => rfl

def Sg.Sub (σ τ : Sg) : Prop := ∀ x d, σ.lookup x = some d → τ.lookup x = some d

theorem FrOk.weak {g : Gl} {c : Cx} {σ τ : Sg} {h : Heap} {W : Wd} (F : FrOk g c τ h W) (hs : σ.Sub τ) : FrOk g c σ h W :=
  { F with vars := fun x d e => F.vars x d (hs x d e) }

section
variable {g : Gl} {sc : Scope} {n : Nat} {σ σ₁ σ₂ : Sg} {μ μ₁ μ₂ μ₃ : Mu}

theorem store_name {c : Cx} {s : Shared} {I : Imm} {x : Str} {v : Value} {d : D} {Q : Unit → Shared → Prop} {E : Value → Shared → Prop} (F : FrOk g c σ s.heap ⟨I, μ⟩) (M : MemOk s.heap ⟨I, μ⟩)
    (hx : c.ev.kindOf x = some .local ∨ c.ev.kindOf x = some .cell) (r : Rep I v d)
    (k : ∀ s', FrOk g c (σ.put x d) s'.heap ⟨I, μ⟩ → TrF (c.wr [x]) s ⟨I, μ⟩ s' ⟨I, μ⟩ → Q () s') : wpAny (model g.prog g.w) c.A (storeName c.ev x v) Q E s := by
  have hp : (c.ev.scope.kind == .class || (c.ev.scope.kind == .module && c.ev.locals != c.ev.globals)) = false := by rw [F.ek]; rfl
  -- what a change at one own place keeps
  have base : ∀ (h' : Heap) (tk : Nat) (a : Addr), c.wr [x] a → Heap.SameBut a s.heap h' → h'.get? a ≠ none → TrF (c.wr [x]) s ⟨I, μ⟩ { s with heap := h', toks := tk } ⟨I, μ⟩ := fun h' tk a hw hs hl => by
    have ha := Cx.wr_own hw
    refine ⟨⟨_, _, rfl⟩, fun b o e _ n => ?_, fun b e => ?_, fun _ _ e => e, fun b e => .inl e, fun b e => .inl e, ⟨fun b o e => ?_, fun b ds e => ?_, M.apart⟩⟩
    · exact (hs.2 b fun q => n (q ▸ hw)).trans e
    · by_cases q : b = a
      · subst q; exact hl
      · show h'.get? b ≠ none; rw [hs.2 b q]; exact e
    · refine (hs.2 b fun q => ?_).trans (M.imm b o e)
      subst q; have := (F.ownI b ha).1; rw [this] at e; cases e
    · obtain ⟨vs, ⟨m, hm⟩, r⟩ := M.mu b ds e
      refine ⟨vs, ⟨m, (hs.2 b fun q => ?_).trans hm⟩, r⟩
      subst q; have := (F.ownI b ha).2; rw [this] at e; cases e
  rcases hx with hx | hx
  · obtain ⟨m, hn⟩ := F.loc
    refine wpAny_storeName_local hx hn (fun h' hn' hs' => ?_) hp
    have hl : h'.get? c.ev.locals ≠ none := by obtain ⟨o, _, _, ho, _⟩ := hn'; rw [ho]; simp
    refine k _ ?_ (base h' _ _ (.inl rfl) hs' hl)
    refine { F with fr := ?_, loc := ⟨_, hn'⟩, cell := fun y a ha => ?_, vars := fun y e he => ?_ }
    · obtain ⟨mL, fr⟩ := F.fr
      have keep : ∀ b o, c.h₀.get? b = some o → h'.get? b = some o := fun b o e => (hs'.2 b fun q => by subst q; rw [F.locAbove] at e; cases e).trans (fr.keep b o e)
      by_cases hL : c.L = c.ev.locals
      · exact ⟨_, hL ▸ hn', keep, fr.above⟩
      · exact ⟨mL, fr.ns.sameBut hs' hL, keep, fr.above⟩
    · obtain ⟨⟨u, o, ho, hd⟩, r1, r2, r3⟩ := F.cell y a ha
      exact ⟨⟨u, o, (hs'.2 a r2).trans ho, hd⟩, r1, r2, r3⟩
    · rw [lookup_put] at he
      by_cases q : (y == x) = true
      · rw [if_pos q] at he
        cases he
        have : y = x := beq_iff_eq.mp q
        subst this
        exact ⟨v, .inl ⟨hx, _, hn', by simp⟩, r⟩
      · rw [if_neg q] at he
        obtain ⟨u, hh, ru⟩ := F.vars y e he
        refine ⟨u, ?_, ru⟩
        rcases hh with ⟨hk, m', hm', hu⟩ | ⟨hk, a, ha, o, ho, hd⟩
        · refine .inl ⟨hk, _, hn', ?_⟩
          have : y ≠ x := fun z => q (beq_iff_eq.mpr z)
          simp only [this, if_false]
          obtain ⟨o1, es1, ep1, e1, d1, _, f1⟩ := hn
          obtain ⟨o2, es2, ep2, e2, d2, _, f2⟩ := hm'
          rw [e1] at e2; cases e2
          rw [d1] at d2; cases d2
          rw [← f1 y, f2 y, hu]
        · exact .inr ⟨hk, a, ha, o, (hs'.2 a (F.cell y a ha).2.2.1).trans ho, hd⟩
  · obtain ⟨a, ha⟩ := F.cellAt x hx
    obtain ⟨⟨u0, hc0⟩, hL, hloc, h0⟩ := F.cell x a ha
    refine wpAny_storeName_cell F.ek hx ha hc0 fun h' hc' hs' => ?_
    have hl : h'.get? a ≠ none := by obtain ⟨o, ho, _⟩ := hc'; rw [ho]; simp
    refine k _ ?_ (base h' s.toks _ (.inr ⟨x, List.mem_singleton.mpr rfl, hx, ha⟩) hs' hl)
    refine { F with fr := ?_, loc := ?_, cell := fun y b hb => ?_, vars := fun y e he => ?_ }
    · obtain ⟨mL, fr⟩ := F.fr
      exact ⟨mL, fr.ns.sameBut hs' (Ne.symm hL), fun b o e => (hs'.2 b fun q => by subst q; rw [h0] at e; cases e).trans (fr.keep b o e), fr.above⟩
    · obtain ⟨m, hn⟩ := F.loc
      exact ⟨m, hn.sameBut hs' (Ne.symm hloc)⟩
    · obtain ⟨⟨u, hc⟩, r1, r2, r3⟩ := F.cell y b hb
      refine ⟨?_, r1, r2, r3⟩
      by_cases q : b = a
      · subst q; exact ⟨_, hc'⟩
      · exact ⟨u, hc.sameBut hs' q⟩
    · rw [lookup_put] at he
      by_cases q : (y == x) = true
      · rw [if_pos q] at he
        cases he
        have : y = x := beq_iff_eq.mp q
        subst this
        exact ⟨v, .inr ⟨hx, a, ha, hc'⟩, r⟩
      · rw [if_neg q] at he
        obtain ⟨u, hh, ru⟩ := F.vars y e he
        refine ⟨u, ?_, ru⟩
        rcases hh with ⟨hk, m', hm', hu⟩ | ⟨hk, b, hb, hc⟩
        · exact .inl ⟨hk, m', hm'.sameBut hs' (Ne.symm hloc), hu⟩
        · refine .inr ⟨hk, b, hb, hc.sameBut hs' fun z => ?_⟩
          subst z
          exact q (beq_iff_eq.mpr (F.cellInj y x b hb ha))

/-- a step that only adds, then the rest -/
theorem FrOk.grow {c : Cx} {s : Shared} {I : Imm} (F : FrOk g c σ s.heap ⟨I, μ⟩) (M : MemOk s.heap ⟨I, μ⟩) {h' : Heap} {k : Nat} (hk : ∀ b o, s.heap.get? b = some o → h'.get? b = some o) :
    FrOk g c σ h' ⟨I, μ⟩ := F.tr (s' := { s with heap := h', toks := k }) (TrF.grow M hk)

def tnames : Expr → List Str
  | .Name x _ => [x]
  | .Tuple [.Name x _, .Name y _] _ _ => [x, y]
  | .Tuple [.Tuple [.Name x _, .Name y _] _ _, .Tuple [.Name z _, .Name w _] _ _] _ _ => [x, y, z, w]
  | _ => []
/-- a target takes a datum -/
def AsN (ns : List Str) (g : Gl) (sc : Scope) (σ : Sg) (t : Expr) (d : D) (σ' : Sg) : Prop :=
  ∀ (c : Cx), c.ev.scope = sc → ∀ (s : Shared) (I : Imm) (μ : Mu) (v : Value), FrOk g c σ s.heap ⟨I, μ⟩ → MemOk s.heap ⟨I, μ⟩ → Rep I v d → ∀ (Q : Unit → Shared → Prop) (E : Value → Shared → Prop),
    (∀ s', FrOk g c σ' s'.heap ⟨I, μ⟩ → TrF (c.wr ns) s ⟨I, μ⟩ s' ⟨I, μ⟩ → Q () s') → wpAny (model g.prog g.w) c.A (assign t c.ev v) Q E s
abbrev AsS (g : Gl) (sc : Scope) (σ : Sg) (t : Expr) (d : D) (σ' : Sg) : Prop := AsN (tnames t) g sc σ t d σ'

theorem AsN.name {ns : List Str} {x : Str} {p : Pos} {d : D} (hx : sc.names.lookup x = some .local ∨ sc.names.lookup x = some .cell) (hn : x ∈ ns) : AsN ns g sc σ (.Name x p) d (σ.put x d) := by
  intro c hsc s I μ v F M r Q E k
  refine wpAny_assign_Name (store_name F M ?_ r fun s' F' T' => k s' F' (T'.mono fun a h => Cx.wr_mono (fun y hy => by rw [List.mem_singleton.mp hy]; exact hn) h))
  unfold Env.kindOf; rw [hsc]; exact hx

theorem AsN.pair {ns : List Str} {t u : Expr} {k0 : Nat} {p : Pos} {a b : D} (h1 : AsN ns g sc σ t a σ₁) (h2 : AsN ns g sc σ₁ u b σ₂)
    (he : ∀ env, assignEach [t, u] env = [(false, assign t env), (false, assign u env)] := by intro _; rfl) : AsN ns g sc σ (.Tuple [t, u] k0 p) (.tup [a, b]) σ₂ := by
  intro c hsc s I μ v F M r Q E k
  cases r with
  | @tup ad n0 vs _ hI hr =>
  obtain ⟨va, vb, rfl, ra, rb⟩ := hr.two
  refine assign_Tuple_tuple F.handled ⟨_, M.imm _ _ hI, rfl, _, rfl⟩ (by rw [he]; rfl) (by rw [he]; rfl) fun h' hk' => ?_
  rw [he]
  have hk : ∀ b o, s.heap.get? b = some o → h'.get? b = some o := fun b o e => hk' b o (Nat.ne_of_lt (Heap.lt_size e)) e
  have T0 : TrF (c.wr ns) s ⟨I, μ⟩ { s with heap := h' } ⟨I, μ⟩ := TrF.grow M hk (k := s.toks)
  have F0 : FrOk g c σ h' ⟨I, μ⟩ := F.grow M hk (k := s.toks)
  refine wpAny_assignInOrder_more (h1 c hsc { s with heap := h' } I μ va F0 T0.mem ra _ _ fun s₁ F₁ T₁ => ?_)
  refine wpAny_assignInOrder_more (h2 c hsc s₁ I μ vb F₁ T₁.mem rb _ _ fun s₂ F₂ T₂ => ?_)
  exact wpAny_assignInOrder_none (k s₂ F₂ ((T0.trans T₁).trans T₂))

theorem AsS.name {x : Str} {p : Pos} {d : D} (hx : sc.names.lookup x = some .local ∨ sc.names.lookup x = some .cell) : AsS g sc σ (.Name x p) d (σ.put x d) := AsN.name hx (.head _)
theorem wrUp {c : Cx} {ns : List Str} {s s' : Shared} {W W' : Wd} (T : TrF (c.wr ns) s W s' W') : TrF c.own s W s' W' := T.mono fun _ h => Cx.wr_own h

/-! statements -/
theorem ExS.nil : ExS g sc n σ μ [] .next σ μ := by
  intro c hsc R s I F M Q E k
  exact wpAny_execs_nil (k _ s I F (TrF.refl M) .next)
theorem ExS.cons {st : Stmt} {ss : List Stmt} {fl : Fl} (h1 : Ex1 g sc n σ μ st .next σ₁ μ₁) (h2 : ExS g sc n σ₁ μ₁ ss fl σ₂ μ₂) : ExS g sc n σ μ (st :: ss) fl σ₂ μ₂ := by
  intro c hsc R s I F M Q E k
  refine wpAny_execs_cons (h1 c hsc R s I F M _ _ fun f s₁ I₁ F₁ T₁ r₁ => ?_)
  cases r₁
  exact h2 c hsc R s₁ I₁ F₁ T₁.mem _ _ fun f s₂ I₂ F₂ T₂ r₂ => k f s₂ I₂ F₂ (T₁.trans T₂) r₂
theorem ExS.stop {st : Stmt} {ss : List Stmt} {d : D} (h1 : Ex1 g sc n σ μ st (.ret d) σ₁ μ₁) : ExS g sc n σ μ (st :: ss) (.ret d) σ₁ μ₁ := by
  intro c hsc R s I F M Q E k
  refine wpAny_execs_cons (h1 c hsc R s I F M _ _ fun f s₁ I₁ F₁ T₁ r₁ => ?_)
  cases r₁ with
  | ret r => exact k _ s₁ I₁ F₁ T₁ (.ret r)
theorem ExS.weak {ss : List Stmt} {fl : Fl} {τ : Sg} (h : ExS g sc n σ μ ss fl σ₁ μ₁) (hs : τ.Sub σ₁) : ExS g sc n σ μ ss fl τ μ₁ := by
  intro c hsc R s I F M Q E k
  exact h c hsc R s I F M _ _ fun f s₁ I₁ F₁ T₁ r₁ => k f s₁ I₁ (F₁.weak hs) T₁ r₁
theorem ExS.strong {ss : List Stmt} {fl : Fl} {τ : Sg} (h : ExS g sc n σ μ ss fl σ₁ μ₁) (hs : σ.Sub τ) : ExS g sc n τ μ ss fl σ₁ μ₁ := by
  intro c hsc R s I F M Q E k
  exact h c hsc R s I (F.weak hs) M _ _ k

theorem Ex1.ret {e : Expr} {pos : Pos} {d : D} (h : EvS g sc n σ μ e d μ₁) : Ex1 g sc n σ μ (.Return (some e) pos) (.ret d) σ μ₁ := by
  intro c hsc R s I F M Q E k
  exact wpAny_Return_some (h c hsc R s I F M _ _ fun v s₁ I₁ T₁ r₁ => k _ s₁ I₁ (F.tr T₁) T₁.up (.ret r₁))
theorem Ex1.if_ {t : Expr} {b o : List Stmt} {pos : Pos} {v : Bool} {fl : Fl} (ht : TsS g sc n σ μ t v μ₁) (hb : v = true → ExS g sc n σ μ₁ b fl σ₁ μ₂) (ho : v = false → ExS g sc n σ μ₁ o fl σ₁ μ₂) :
    Ex1 g sc n σ μ (.If t b o pos) fl σ₁ μ₂ := by
  intro c hsc R s I F M Q E k
  refine wpAny_If (ht c hsc R s I F M _ _ fun s₁ I₁ T₁ => ?_)
  cases v with
  | true => exact hb rfl c hsc R s₁ I₁ (F.tr T₁) T₁.mem _ _ fun f s₂ I₂ F₂ T₂ r₂ => k f s₂ I₂ F₂ (T₁.up.trans T₂) r₂
  | false => exact ho rfl c hsc R s₁ I₁ (F.tr T₁) T₁.mem _ _ fun f s₂ I₂ F₂ T₂ r₂ => k f s₂ I₂ F₂ (T₁.up.trans T₂) r₂

theorem Ex1.assign {x : Str} {p pos : Pos} {e : Expr} {d : D} (h : EvS g sc n σ μ e d μ₁) (hx : sc.names.lookup x = some .local ∨ sc.names.lookup x = some .cell)
    (hs : ∀ env, env.scope = sc → swapsWith e (some (.Name x p)) pos.line env = pure false := by intro _ _; rfl) : Ex1 g sc n σ μ (.Assign [.Name x p] e pos) .next (σ.put x d) μ₁ := by
  intro c hsc R s I F M Q E k
  refine wpAny_Assign_Name (h c hsc R s I F M _ _ fun v s₁ I₁ T₁ r₁ => ?_) (hs _ hsc)
  refine store_name (F.tr T₁) T₁.mem ?_ r₁ fun s₂ F₂ T₂ => k _ s₂ I₁ F₂ (T₁.up.trans (wrUp T₂)) .next
  unfold Env.kindOf; rw [hsc]; exact hx

/-- x, y = .. : both names local, stored from behind -/
theorem Ex1.assign2 {x y : Str} {px py tp pos : Pos} {k0 : Nat} {e : Expr} {a b : D} (h : EvS g sc n σ μ e (.tup [a, b]) μ₁) (hx : sc.names.lookup x = some .local) (hy : sc.names.lookup y = some .local)
    (hs : ∀ env, env.scope = sc → swapsWithSole [.Tuple [.Name x px, .Name y py] k0 tp] e pos.line env = pure false := by intro _ _; rfl)
    (hw : ∀ env, env.scope = sc → swappedStores [.Tuple [.Name x px, .Name y py] k0 tp] e env = pure (some [x, y]) := by intro _ h; subst h; rfl) :
    Ex1 g sc n σ μ (.Assign [.Tuple [.Name x px, .Name y py] k0 tp] e pos) .next ((σ.put y b).put x a) μ₁ := by
  intro c hsc R s I F M Q E k
  refine Assign_Tuple_swapped (h c hsc R s I F M _ _ fun v s₁ I₁ T₁ r₁ => ?_) (hs _ hsc) (hw _ hsc)
  cases r₁ with
  | @tup ad n0 vs _ hI hr =>
  obtain ⟨va, vb, rfl, ra, rb⟩ := hr.two
  have hkx : c.ev.kindOf x = some .local ∨ c.ev.kindOf x = some .cell := by unfold Env.kindOf; rw [hsc]; exact .inl hx
  have hky : c.ev.kindOf y = some .local ∨ c.ev.kindOf y = some .cell := by unfold Env.kindOf; rw [hsc]; exact .inl hy
  refine unpackItems_tuple (items := #[va, vb]) F.handled ⟨_, T₁.mem.imm _ _ hI, rfl, _, rfl⟩ fun h' hk' => ?_
  have hk : ∀ b o, s₁.heap.get? b = some o → h'.get? b = some o := fun b o e => hk' b o (Nat.ne_of_lt (Heap.lt_size e)) e
  have T0 : TrF c.own s₁ ⟨I₁, μ₁⟩ { s₁ with heap := h' } ⟨I₁, μ₁⟩ := TrF.grow T₁.mem hk (k := s₁.toks)
  have F0 : FrOk g c σ h' ⟨I₁, μ₁⟩ := (F.tr T₁).grow T₁.mem hk (k := s₁.toks)
  refine wpAny_assignInOrder_more (wpAny_bindName (store_name (s := { s₁ with heap := h' }) F0 T0.mem hky rb fun s₂ F₂ T₂ => ?_))
  refine wpAny_assignInOrder_more (wpAny_bindName (store_name F₂ T₂.mem hkx ra fun s₃ F₃ T₃ => ?_))
  exact wpAny_assignInOrder_none (k _ s₃ I₁ F₃ (((T₁.up.trans T0).trans (wrUp T₂)).trans (wrUp T₃)) .next)

theorem Reps.set {I : Imm} {v : Value} {d : D} (r : Rep I v d) : ∀ {vs : List Value} {ds : List D}, Reps I vs ds → ∀ j, Reps I (vs.set j v) (ds.set j d)
  | _, _, .nil, _ => .nil
  | _, _, .cons _ t, 0 => .cons r t
  | _, _, .cons h t, j + 1 => .cons h (Reps.set r t j)

def Mu.put (μ : Mu) (a : Addr) (ds : List D) : Mu := fun b => if b = a then some ds else μ b
theorem Mu.put_self (μ : Mu) (a : Addr) (ds : List D) : μ.put a ds a = some ds := by simp [Mu.put]

/-- a list at hand is changed -/
theorem TrF.mut {P : Addr → Prop} {s : Shared} {I : Imm} (M : MemOk s.heap ⟨I, μ⟩) {h' : Heap} {k : Nat} {a : Addr} {ds : List D} (ha : μ a ≠ none) (hs : Heap.SameBut a s.heap h') {vs : List Value} (hl : h'.PlainList a vs.toArray) (hr : Reps I vs ds) :
    TrF P s ⟨I, μ⟩ { s with heap := h', toks := k } ⟨I, μ.put a ds⟩ := by
  refine ⟨⟨_, _, rfl⟩, fun b o e m _ => (hs.2 b fun q => ha (q ▸ m)).trans e, fun b e => ?_, fun _ _ e => e, fun b e => .inl e, fun b e => ?_, ⟨fun b o e => (hs.2 b fun q => ?_).trans (M.imm b o e), fun b es e => ?_, fun b e => ?_⟩⟩
  · by_cases q : b = a
    · subst q; obtain ⟨m, hm⟩ := hl; show h'.get? b ≠ none; rw [hm]; simp
    · show h'.get? b ≠ none; rw [hs.2 b q]; exact e
  · by_cases q : b = a
    · subst q; exact .inl ha
    · left; simpa [Mu.put, q] using e
  · subst q; have := M.apart b ha; rw [this] at e; cases e
  · by_cases q : b = a
    · subst q
      have e : μ.put b ds b = some es := e
      rw [Mu.put_self] at e; cases e; exact ⟨vs, hl, hr⟩
    · have e : μ.put a ds b = some es := e
      simp only [Mu.put, q, if_false] at e
      obtain ⟨ws, ⟨m, hm⟩, r⟩ := M.mu b es e
      exact ⟨ws, ⟨m, (hs.2 b q).trans hm⟩, r⟩
  · by_cases q : b = a
    · subst q; exact M.apart b ha
    · exact M.apart b (by simpa [Mu.put, q] using e)

/-- the frame does not see a list turn -/
theorem FrOk.tr' {c : Cx} {s s' : Shared} {W W' : Wd} (F : FrOk g c σ s.heap W) (T : TrF NoP s W s' W') : FrOk g c σ s'.heap W' := F.tr T

theorem Ex1.setItem {o i : Expr} {p pos : Pos} {e : Expr} {a : Addr} {ds : List D} {j : Nat} {d : D} (he : EvS g sc n σ μ e d μ₁) (ho : EvS g sc n σ μ₁ o (.mref a) μ₁) (hi : EvS g sc n σ μ₁ i (.int j) μ₁) (hm : μ₁ a = some ds) (hj : j < ds.length) (hsz : ds.length ≤ 1000)
    (hs : ∀ env, swapsWith e (some (.Subscript o i p)) pos.line env = pure false := by intro _; rfl) : Ex1 g sc n σ μ (.Assign [.Subscript o i p] e pos) .next σ (μ₁.put a (ds.set j d)) := by
  intro c hsc R s I F M Q E k
  refine wpAny_Assign_Subscript (he c hsc R s I F M _ _ fun v s₁ I₁ T₁ r₁ => ho c hsc R s₁ I₁ (F.tr T₁) T₁.mem _ _ fun vo s₂ I₂ T₂ r₂ => hi c hsc R s₂ I₂ ((F.tr T₁).tr T₂) T₂.mem _ _ fun vi s₃ I₃ T₃ r₃ => ?_) (hs _)
  cases r₂
  cases r₃
  obtain ⟨vs, ⟨m, hm'⟩, hr⟩ := T₃.mem.mu _ _ hm
  have hlen := hr.length
  refine ki_setAt (n := m) (items := vs.toArray) hm' (by omega) (by omega) (by rw [List.size_toArray]; omega) ?_
  have T := (T₁.trans T₂).trans T₃
  have q := PySem.IsL.update hm' (·.setIfInBounds (j : Int).toNat v)
  have e : vs.toArray.setIfInBounds (j : Int).toNat v = (vs.set j v).toArray := by
    apply Array.toList_inj.mp
    simp
  rw [e] at q
  have hrep : Reps I₃ (vs.set j v) (ds.set j d) := Reps.set ((r₁.mono T₂.imm).mono T₃.imm) hr j
  have TT : TrF NoP s₃ ⟨I₃, μ₁⟩ { s₃ with heap := s₃.heap.update a (Obj.mapSeq (·.setIfInBounds (j : Int).toNat v)), toks := s₃.toks } ⟨I₃, μ₁.put a (ds.set j d)⟩ := TrF.mut T₃.mem (by rw [hm]; simp) (Heap.SameBut.update ..) ⟨_, q⟩ hrep
  have T' := T.trans TT
  exact k _ _ I₃ (F.tr T') T'.up .next

def Mu.del (μ : Mu) (a : Addr) : Mu := fun b => if b = a then none else μ b
theorem Mu.del_put (μ : Mu) (a : Addr) (ds : List D) (h : μ a = none) : (μ.put a ds).del a = μ := by
  funext b
  unfold Mu.del Mu.put
  by_cases q : b = a
  · subst q; simp [h]
  · simp [q]
theorem Mu.put_put (μ : Mu) (a : Addr) (ds es : List D) : (μ.put a ds).put a es = μ.put a es := by
  funext b
  unfold Mu.put
  by_cases q : b = a <;> simp [q]
theorem Mu.put_comm (μ : Mu) {a b : Addr} (ds es : List D) (h : a ≠ b) : (μ.put a ds).put b es = (μ.put b es).put a ds := by
  funext c
  unfold Mu.put
  by_cases q : c = a
  · subst q; simp [h]
  · simp [q]
theorem Mu.put_ne (μ : Mu) {a b : Addr} (ds : List D) (h : b ≠ a) : μ.put a ds b = μ b := by simp [Mu.put, h]

/-- a list at hand becomes fixed -/
theorem freeze {P : Addr → Prop} {c : Cx} {s : Shared} {I : Imm} {a : Addr} {ds : List D} (F : FrOk g c σ s.heap ⟨I, μ⟩) (M : MemOk s.heap ⟨I, μ⟩) (hm : μ a = some ds) :
    ∃ I', FrOk g c σ s.heap ⟨I', μ.del a⟩ ∧ TrF P s ⟨I, μ⟩ s ⟨I', μ.del a⟩ ∧ Rep I' (.ref a) (.lst ds) := by
  obtain ⟨vs, ⟨m, hl⟩, hr⟩ := M.mu a ds hm
  have hm0 : μ a ≠ none := by rw [hm]; simp
  have hIa : I a = none := M.apart a hm0
  have sub : I.Sub (I.put a { cls := .type "list", data := .seq vs.toArray m }) := Imm.put_sub hIa
  have T : ∀ {P}, TrF P s ⟨I, μ⟩ s ⟨I.put a { cls := .type "list", data := .seq vs.toArray m }, μ.del a⟩ := fun {P} => by
    refine ⟨⟨_, _, rfl⟩, fun b o e _ _ => e, fun b e => e, sub, fun b e => ?_, fun b e => ?_, ⟨fun b o e => ?_, fun b es e => ?_, fun b e => ?_⟩⟩
    · by_cases q : b = a
      · subst q; exact .inr (.inr hm0)
      · left; simpa [Imm.put, q] using e
    · left
      by_cases q : b = a
      · subst q; exact hm0
      · simpa [Mu.del, q] using e
    · by_cases q : b = a
      · subst q
        have e : I.put b _ b = some o := e
        rw [Imm.put_self] at e; cases e; exact hl
      · exact M.imm b o (by simpa [Imm.put, q] using e)
    · by_cases q : b = a
      · subst q; simp [Mu.del] at e
      · obtain ⟨ws, p, r⟩ := M.mu b es (by simpa [Mu.del, q] using e)
        exact ⟨ws, p, r.mono sub⟩
    · by_cases q : b = a
      · subst q; simp [Mu.del] at e
      · have := M.apart b (by simpa [Mu.del, q] using e)
        simpa [Imm.put, q] using this
  exact ⟨_, F.tr T, T, .lst (Imm.put_self ..) rfl rfl (hr.mono sub)⟩

theorem Ex1.retMut {e : Expr} {pos : Pos} {a : Addr} {ds : List D} (h : EvS g sc n σ μ e (.mref a) μ₁) (hm : μ₁ a = some ds) : Ex1 g sc n σ μ (.Return (some e) pos) (.ret (.lst ds)) σ (μ₁.del a) := by
  intro c hsc R s I F M Q E k
  refine wpAny_Return_some (h c hsc R s I F M _ _ fun v s₁ I₁ T₁ r₁ => ?_)
  cases r₁
  obtain ⟨I₂, F₂, T₂, r₂⟩ := freeze (P := c.own) (F.tr T₁) T₁.mem hm
  exact k _ s₁ I₂ F₂ (T₁.up.trans T₂) (.ret r₂)
theorem Ex1.assignMut {x : Str} {p pos : Pos} {e : Expr} {a : Addr} {ds : List D} (h : EvS g sc n σ μ e (.mref a) μ₁) (hm : μ₁ a = some ds) (hx : sc.names.lookup x = some .local ∨ sc.names.lookup x = some .cell)
    (hs : ∀ env, env.scope = sc → swapsWith e (some (.Name x p)) pos.line env = pure false := by intro _ _; rfl) : Ex1 g sc n σ μ (.Assign [.Name x p] e pos) .next (σ.put x (.lst ds)) (μ₁.del a) := by
  intro c hsc R s I F M Q E k
  refine wpAny_Assign_Name (h c hsc R s I F M _ _ fun v s₁ I₁ T₁ r₁ => ?_) (hs _ hsc)
  cases r₁
  obtain ⟨I₂, F₂, T₂, r₂⟩ := freeze (P := c.own) (F.tr T₁) T₁.mem hm
  refine store_name F₂ T₂.mem ?_ r₂ fun s₃ F₃ T₃ => k _ s₃ I₂ F₃ ((T₁.up.trans T₂).trans (wrUp T₃)) .next
  unfold Env.kindOf; rw [hsc]; exact hx

/-- a list made to be changed -/
theorem ExS.newList {x : Str} {p lp pos : Pos} {es : List Expr} {ds : List D} {ss : List Stmt} {fl : Fl} (he : EvL g sc n σ μ lp es ds μ₁) (hx : sc.names.lookup x = some .local ∨ sc.names.lookup x = some .cell) (hsz : ds.length ≤ 1000)
    (h : ∀ a, μ₁ a = none → ExS g sc n (σ.put x (.mref a)) (μ₁.put a ds) ss fl σ₂ μ₂) : ExS g sc n σ μ (.Assign [.Name x p] (.List es lp) pos :: ss) fl σ₂ μ₂ := by
  intro c hsc R s I F M Q E k
  refine wpAny_execs_cons (wpAny_Assign_Name (wpAny_List (he c hsc R s I F M _ _ fun vs s₁ I₁ T₁ r₁ => ⟨?_, ?_⟩)) rfl)
  · rw [sizeLine_eq, r₁.length]; omega
  · have hk : ∀ b o, s₁.heap.get? b = some o → (s₁.heap.push { cls := .type "list", data := .seq vs.toArray }).get? b = some o := fun b o e => Heap.get?_push_of_some _ e
    have fr := T₁.mem.fresh (Heap.get_size s₁.heap)
    have T : ∀ {P}, TrF P s₁ ⟨I₁, μ₁⟩ { s₁ with heap := s₁.heap.push { cls := .type "list", data := .seq vs.toArray } } ⟨I₁, μ₁.put s₁.heap.objs.size ds⟩ := fun {P} => by
      refine ⟨⟨_, _, rfl⟩, fun b o e _ _ => hk b o e, fun b e => ?_, fun _ _ e => e, fun b e => .inl e, fun b e => ?_, ⟨fun b o e => hk b o (T₁.mem.imm b o e), fun b es e => ?_, fun b e => ?_⟩⟩
      · cases q : s₁.heap.get? b with
        | none => exact absurd q e
        | some o' => show (s₁.heap.push _).get? b ≠ none; rw [hk b o' q]; simp
      · by_cases q : b = s₁.heap.objs.size
        · subst q; exact .inr (Heap.get_size _)
        · left; simpa [Mu.put, q] using e
      · by_cases q : b = s₁.heap.objs.size
        · subst q
          have e : μ₁.put s₁.heap.objs.size ds s₁.heap.objs.size = some es := e
          rw [Mu.put_self] at e; cases e
          exact ⟨vs, ⟨0, Heap.get?_push_size _ rfl⟩, r₁⟩
        · obtain ⟨ws, ⟨m, hm⟩, r⟩ := T₁.mem.mu b es (by simpa [Mu.put, q] using e)
          exact ⟨ws, ⟨m, hk _ _ hm⟩, r⟩
      · by_cases q : b = s₁.heap.objs.size
        · subst q; exact fr.1
        · exact T₁.mem.apart b (by simpa [Mu.put, q] using e)
    have T0 := (T₁.trans T)
    refine store_name (s := { s₁ with heap := s₁.heap.push { cls := .type "list", data := .seq vs.toArray } }) (F.tr T0) T0.mem (by unfold Env.kindOf; rw [hsc]; exact hx) (.mref _) fun s₂ F₂ T₂ => ?_
    exact h _ fr.2 c hsc R s₂ I₁ F₂ T₂.mem _ _ fun f s₃ I₃ F₃ T₃ r₃ => k f s₃ I₃ F₃ ((T0.up.trans (wrUp T₂)).trans T₃) r₃

/-- a method's call as a statement, the list at hand -/
theorem Ex1.append {o e : Expr} {ap cp pos : Pos} {a : Addr} {ds : List D} {d : D} (ho : EvS g sc n σ μ o (.mref a) μ) (he : EvS g sc n σ μ e d μ₁) (hm0 : μ a ≠ none) (hm : μ₁ a = some ds) (hsz : ds.length ≤ 1000)
    (hbase : ∀ env, attributeBase o "append" env (eval o env) = eval o env := by intro _; rfl) (htrees : ∀ env, backTo cp (starEach [e] env) = [(false, eval e env)] := by intro _; rfl)
    (hline : (ap.endLine == cp.line) = true := by rfl) (hi : ∀ env, env.scope = sc → interactive env = false := by intro _ h; unfold interactive; rw [h]; rfl)
    (hs : ∀ env, swapsWith (.Call (.Attribute o "append" ap) [e] [] cp) none pos.line env = pure false := by intro _; rfl) :
    Ex1 g sc n σ μ (.Expr (.Call (.Attribute o "append" ap) [e] [] cp) pos) .next σ (μ₁.put a (ds ++ [d])) := by
  intro c hsc R s I F M Q E k
  refine wpAny_Expr_any (wpAny_Call_append (hbase _) (by rw [htrees]; rfl) hline (htrees _) (ho c hsc R s I F M _ _ fun v s₁ I₁ T₁ r₁ => ?_)) (hi _ hsc) (hs _)
  cases r₁
  obtain ⟨ds0, hds0⟩ : ∃ ds0, μ a = some ds0 := by
    cases q : μ a with
    | none => exact absurd q hm0
    | some x => exact ⟨x, rfl⟩
  obtain ⟨ws, ⟨m0, hl0⟩, _⟩ := T₁.mem.mu a ds0 hds0
  refine ⟨a, ws.toArray, rfl, ⟨_, m0, hl0, rfl, rfl, rfl⟩, he c hsc R s₁ I₁ (F.tr T₁) T₁.mem _ _ fun y s₂ I₂ T₂ r₂ => ?_⟩
  obtain ⟨vs, ⟨m, hl⟩, hr⟩ := T₂.mem.mu a ds hm
  refine wpAny_list_append_plain ⟨m, hl⟩ (fun h' hl' hs' => ?_) (by rw [List.size_toArray, hr.length, sizeLine_eq]; omega)
  have TT : TrF NoP s₂ ⟨I₂, μ₁⟩ { s₂ with heap := h', toks := s₂.toks } ⟨I₂, μ₁.put a (ds ++ [d])⟩ := TrF.mut (vs := vs ++ [y]) T₂.mem (by rw [hm]; simp) hs' (by rw [List.push_toArray] at hl'; exact hl') (hr.snoc r₂)
  have T := (T₁.trans T₂).trans TT
  exact k _ _ I₂ (F.tr T) T.up .next

theorem Ex1.extend {o e : Expr} {ap cp pos : Pos} {a : Addr} {ds es : List D} (ho : EvS g sc n σ μ o (.mref a) μ) (he : EvS g sc n σ μ e (.tup es) μ₁) (hm0 : μ a ≠ none) (hm : μ₁ a = some ds) (hsz : ds.length + es.length ≤ 1000)
    (hbase : ∀ env, attributeBase o "extend" env (eval o env) = eval o env := by intro _; rfl) (htrees : ∀ env, backTo cp (starEach [e] env) = [(false, eval e env)] := by intro _; rfl)
    (hline : (ap.endLine == cp.line) = true := by rfl) (hi : ∀ env, env.scope = sc → interactive env = false := by intro _ h; unfold interactive; rw [h]; rfl)
    (hs : ∀ env, swapsWith (.Call (.Attribute o "extend" ap) [e] [] cp) none pos.line env = pure false := by intro _; rfl) :
    Ex1 g sc n σ μ (.Expr (.Call (.Attribute o "extend" ap) [e] [] cp) pos) .next σ (μ₁.put a (ds ++ es)) := by
  intro c hsc R s I F M Q E k
  refine wpAny_Expr_any (wpAny_Call_method (T := "list") (id := "list.extend") (hbase _) (by rw [htrees]; rfl) hline PySem.F.plainAttrs_list PySem.F.slot_list_extend PySem.F.type_list_extend (ho c hsc R s I F M _ _ fun v s₁ I₁ T₁ r₁ => ?_)) (hi _ hsc) (hs _)
  cases r₁
  obtain ⟨ds0, hds0⟩ : ∃ ds0, μ a = some ds0 := by
    cases q : μ a with
    | none => exact absurd q hm0
    | some x => exact ⟨x, rfl⟩
  obtain ⟨ws, ⟨m0, hl0⟩, _⟩ := T₁.mem.mu a ds0 hds0
  refine ⟨⟨_, hl0, rfl⟩, fun b hb => by cases hb; exact ⟨_, hl0, rfl⟩, ?_⟩
  rw [htrees]
  refine Calls.callWith_builtin rfl (Calls.evalArgs_plain (Calls.spliced_cons (he c hsc R s₁ I₁ (F.tr T₁) T₁.mem _ _ fun y s₂ I₂ T₂ r₂ => Calls.spliced_nil ?_)))
  obtain ⟨vs, ⟨m, hl⟩, hr⟩ := T₂.mem.mu a ds hm
  cases r₂ with
  | @tup b n0 us _ hI hr2 =>
  have ho2 := T₂.mem.imm _ _ hI
  have h1 := hr.length
  have h2 := hr2.length
  refine call_meets PySem.F.slot_list_extend ⟨_, hl, rfl⟩ PySem.F.entry_list_extend (PySem.F.args_list_extend_2 _ _) (PySem.AutoSeq1.list_extend_list_tuple_0 a vs.toArray m b us.toArray n0 (extend_door (by simp only [List.size_toArray, sizeLine_eq]; omega)) (by simp only [List.size_toArray, sizeLine_eq]; omega) (by simp only [List.size_toArray, sizeLine_eq]; omega)) ⟨hl, ho2, ?_⟩
  have q := PySem.IsL.update hl (· ++ us.toArray)
  have e1 : vs.toArray ++ us.toArray = (vs ++ us).toArray := by simp
  rw [e1] at q
  have TT : TrF NoP s₂ ⟨I₂, μ₁⟩ { s₂ with heap := s₂.heap.update a (Obj.mapSeq (· ++ us.toArray)), toks := s₂.toks } ⟨I₂, μ₁.put a (ds ++ es)⟩ := TrF.mut (vs := vs ++ us) T₂.mem (by rw [hm]; simp) (Heap.SameBut.update ..) ⟨_, q⟩ (hr.append hr2)
  have T := (T₁.trans T₂).trans TT
  exact k _ _ I₂ (F.tr T) T.up .next
end
-- part L6
def rngItems (a : Int) (n : Nat) : List D := (List.range n).map fun (i : Nat) => D.int (a + i)
def D.items : D → Option (List D)
  | .lst l => some l
  | .tup l => some l
  | .rng a n => some (rngItems a n)
  | _ => Option.none

theorem rngItems_zero (a : Int) : rngItems a 0 = [] := rfl
theorem rngItems_succ (a : Int) (n : Nat) : rngItems a (n + 1) = .int a :: rngItems (a + 1) n := by
  unfold rngItems
  rw [List.range_succ_eq_map, List.map_cons, List.map_map]
  congr 1
  · simp
  · apply List.map_congr_left
    intro i _
    simp only [Function.comp]
    congr 1
    omega

/-- the iterator it has ds before it -/
inductive ItAt (I : Imm) (h : Heap) (it : Addr) : List D → Prop
  | list {l : Addr} {o : Obj} {n : Nat} {vs : List Value} {all : List D} {i : Nat} : I l = some o → o.cls = .type "list" → o.data = .seq vs.toArray n → Reps I vs all → h.IsListIter it l i → ItAt I h it (all.drop i)
  | tup {l : Addr} {n : Nat} {vs : List Value} {all : List D} {i : Nat} : I l = some { cls := .type "tuple", data := .seq vs.toArray n } → Reps I vs all → IsTupIter h it l i → ItAt I h it (all.drop i)
  | rng {x : Int} {n : Nat} : IsRangeIter h it x n 1 → ItAt I h it (rngItems x n)

theorem ItAt.keep {I J : Imm} {h h' : Heap} {it : Addr} {ds : List D} (x : ItAt I h it ds) (s : I.Sub J) (k : ∀ o, h.get? it = some o → h'.get? it = some o) : ItAt J h' it ds := by
  cases x with
  | list a b c d e => exact .list (s _ _ a) b c (d.mono s) (e.at k)
  | tup a d e => obtain ⟨o, ho, r⟩ := e; exact .tup (s _ _ a) (d.mono s) ⟨o, k o ho, r⟩
  | rng e => exact .rng (k _ e)
theorem ItAt.live {I : Imm} {h : Heap} {it : Addr} {ds : List D} (x : ItAt I h it ds) : h.get? it ≠ none := by
  cases x with
  | list a b c d e => obtain ⟨o, ho, _⟩ := e; rw [ho]; simp
  | tup a d e => obtain ⟨o, ho, _⟩ := e; rw [ho]; simp
  | rng e => rw [e]; simp

theorem List.drop_eq_cons' {α : Type} {l : List α} {i : Nat} {d : α} {ds : List α} (h : l.drop i = d :: ds) : l[i]? = some d ∧ l.drop (i + 1) = ds := by
  have h1 : (l.drop i)[0]? = some d := by rw [h]; rfl
  refine ⟨by simpa using h1, ?_⟩
  have h2 : (l.drop i).drop 1 = ds := by rw [h]; rfl
  simpa [List.drop_drop, Nat.add_comm] using h2

section
variable {g : Gl} {sc : Scope} {n : Nat} {σ σ₁ σ₂ τ : Sg} {μ μ₁ μ₂ μ₃ : Mu} {c : Cx}

theorem next_item {A : Around} {s : Shared} {I : Imm} {it : Addr} {d : D} {ds : List D} {Q : Option Value → Shared → Prop} {E : Value → Shared → Prop} (M : MemOk s.heap ⟨I, μ⟩) (x : ItAt I s.heap it (d :: ds))
    (k : ∀ v h' tk, Heap.SameBut it s.heap h' → ItAt I h' it ds → Rep I v d → Q (some v) { s with heap := h', toks := tk }) : wpAny (model g.prog g.w) A (pyNext (.ref it)) Q E s := by
  generalize hl : d :: ds = l at x
  cases x with
  | @list la o n vs all i a b cc r e =>
    obtain ⟨h1, h2⟩ := List.drop_eq_cons' hl.symm
    obtain ⟨v, hv, rv⟩ := r.get i d h1
    refine wpAny_pyNext_list_item e ⟨_, M.imm _ _ a, b, _, cc⟩ (by simpa using hv) fun h' hit hs => ?_
    exact k v h' s.toks hs (h2 ▸ .list a b cc r hit) rv
  | @tup la n vs all i a r e =>
    obtain ⟨h1, h2⟩ := List.drop_eq_cons' hl.symm
    obtain ⟨v, hv, rv⟩ := r.get i d h1
    refine next_tuple_item e ⟨_, M.imm _ _ a, rfl, _, rfl⟩ (by simpa using hv) fun h' hit hs => ?_
    exact k v h' s.toks hs (h2 ▸ .tup a r hit) rv
  | @rng y m e =>
    cases m with
    | zero => rw [rngItems_zero] at hl; cases hl
    | succ m =>
      rw [rngItems_succ] at hl
      cases hl
      refine wpAny_pyNext_range_item e (by omega) fun h' hit hs => ?_
      refine k _ h' _ hs ?_ (.int _ _)
      have e1 : ((m + 1 : Nat) : Int) - 1 = (m : Nat) := by omega
      rw [e1] at hit
      exact .rng hit
theorem next_end {A : Around} {s : Shared} {I : Imm} {it : Addr} {Q : Option Value → Shared → Prop} {E : Value → Shared → Prop} (hh : A.handled = none) (M : MemOk s.heap ⟨I, μ⟩) (x : ItAt I s.heap it [])
    (k : ∀ h', Heap.ExtBut it s.heap h' → Q none { s with heap := h' }) : wpAny (model g.prog g.w) A (pyNext (.ref it)) Q E s := by
  generalize hl : ([] : List D) = l at x
  cases x with
  | @list la o n vs all i a b cc r e =>
    have h1 : all.length ≤ i := by simpa using hl.symm
    exact wpAny_pyNext_list_end hh e ⟨_, M.imm _ _ a, b, _, cc⟩ (by have := r.length; simp; omega) k
  | @tup la n vs all i a r e =>
    have h1 : all.length ≤ i := by simpa using hl.symm
    exact next_tuple_end hh e ⟨_, M.imm _ _ a, rfl, _, rfl⟩ (by have := r.length; simp; omega) k
  | @rng y m e =>
    cases m with
    | zero => exact wpAny_pyNext_range_end hh e (by omega) k
    | succ m => rw [rngItems_succ] at hl; cases hl
theorem iter_self {A : Around} {s : Shared} {I : Imm} {it : Addr} {ds : List D} {Q : Value → Shared → Prop} {E : Value → Shared → Prop} (x : ItAt I s.heap it ds) (k : Q (.ref it) s) : wpAny (model g.prog g.w) A (pyIter (.ref it)) Q E s := by
  cases x with
  | list a b cc r e => exact wpAny_pyIter_listiter e k
  | tup a r e => exact wpAny_pyIter_tupleiter e k
  | rng e => exact wpAny_pyIter_rangeiter e k
/-- what iter() gives -/
theorem iter_data {A : Around} {s : Shared} {I : Imm} {v : Value} {d : D} {ds : List D} {Q : Value → Shared → Prop} {E : Value → Shared → Prop} (M : MemOk s.heap ⟨I, μ⟩) (r : Rep I v d) (hd : d.items = some ds) (hsm : ∀ a m, d = .rng a m → -1000 ≤ a ∧ a ≤ 1000 ∧ m ≤ 1000)
    (k : ∀ h', (∀ b o, s.heap.get? b = some o → h'.get? b = some o) → ItAt I h' s.heap.objs.size ds → Q (.ref s.heap.objs.size) { s with heap := h' }) : wpAny (model g.prog g.w) A (pyIter v) Q E s := by
  cases r with
  | lst a b cc r' =>
    cases hd
    exact wpAny_pyIter_list ⟨_, M.imm _ _ a, b, _, cc⟩ (k _ (fun b o e => Heap.get?_push_of_some _ e) (by simpa using ItAt.list (i := 0) a b cc r' ⟨_, Heap.get?_push_size _ rfl, rfl, rfl⟩))
  | tup a r' =>
    cases hd
    exact iter_tuple ⟨_, M.imm _ _ a, rfl, _, rfl⟩ (k _ (fun b o e => Heap.get?_push_of_some _ e) (by simpa using ItAt.tup (i := 0) a r' ⟨_, Heap.get?_push_size _ rfl, rfl, rfl⟩))
  | @rng ra a b m t u w a' e =>
    cases hd
    obtain ⟨h1, h2, h3⟩ := hsm a m rfl
    refine wpAny_pyIter_range (M.imm _ _ a') (small_one (by omega) (by omega) (by omega) (by omega)) ?_
    refine k _ (fun b o e => Heap.get?_push_of_some _ e) (.rng ?_)
    have : Builtin.Range.rangeSize a b 1 = (m : Int) := by
      rw [rangeSize_one]; split <;> omega
    rw [this]
    exact Heap.get?_push_size _ rfl
  | none => cases hd
  | bool => cases hd
  | int => cases hd
  | mref => cases hd

/-- one foreign place changes -/
theorem MemOk.but {s : Shared} {I : Imm} {h' : Heap} {a : Addr} (M : MemOk s.heap ⟨I, μ⟩) (hI : I a = none) (hm : μ a = none) (hs : ∀ b o, b ≠ a → s.heap.get? b = some o → h'.get? b = some o) : MemOk h' ⟨I, μ⟩ := by
  refine ⟨fun b o e => hs b o (fun q => ?_) (M.imm b o e), fun b ds e => ?_, M.apart⟩
  · have e : I b = some o := e
    subst q; rw [hI] at e; cases e
  · obtain ⟨vs, ⟨m, h⟩, r⟩ := M.mu b ds e
    exact ⟨vs, ⟨m, hs b _ (fun q => by subst q; have e : μ b = some ds := e; rw [hm] at e; cases e) h⟩, r⟩
theorem FrOk.but {h h' : Heap} {I : Imm} {a : Addr} (F : FrOk g c σ h ⟨I, μ⟩) (ha : ¬ c.own a) (h0 : c.h₀.get? a = none) (hs : ∀ b o, b ≠ a → h.get? b = some o → h'.get? b = some o) : FrOk g c σ h' ⟨I, μ⟩ := by
  have k : ∀ b, c.own b → ∀ o, h.get? b = some o → h'.get? b = some o := fun b hb o e => hs b o (fun q => ha (q ▸ hb)) e
  refine { F with fr := ?_, loc := ?_, cell := fun x b hb => ?_, vars := fun x d e => ?_ }
  · obtain ⟨m, fr⟩ := F.fr
    exact ⟨m, fr.ns.at' fun o e => k _ (.inl rfl) o e, fun b o e => hs b o (fun q => by subst q; rw [h0] at e; cases e) (fr.keep b o e), fr.above⟩
  · obtain ⟨m, hn⟩ := F.loc
    exact ⟨m, hn.at' fun o e => k _ (.inr (.inl rfl)) o e⟩
  · obtain ⟨⟨v, o, ho, hd⟩, r⟩ := F.cell x b hb
    exact ⟨⟨v, o, k b (.inr (.inr ⟨x, hb⟩)) o ho, hd⟩, r⟩
  · obtain ⟨v, hh, r⟩ := F.vars x d e
    exact ⟨v, hh.keep (fun b hb o ho => k b (by rcases hb with h | h; exact .inr (.inl h); exact .inr (.inr h)) o ho), r⟩

theorem FrOk.new0 {s : Shared} {I : Imm} (F : FrOk g c σ s.heap ⟨I, μ⟩) {a : Addr} (ha : s.heap.get? a = none) : c.h₀.get? a = none ∧ ¬ c.own a := by
  refine ⟨?_, fun h => F.ownLive h ha⟩
  cases e : c.h₀.get? a with
  | none => rfl
  | some o => obtain ⟨m, fr⟩ := F.fr; rw [fr.keep a o e] at ha; cases ha

theorem TrF.also {P : Addr → Prop} {s s' : Shared} {W W' : Wd} (x : TrF P s W s' W') (a : Addr) : TrF (fun b => P b ∨ b = a) s W s' W' := x.mono fun _ h => .inl h
/-- what was not there when we began may have changed -/
theorem TrF.behind {P P' : Addr → Prop} {s s' s'' : Shared} {W W' W'' : Wd} (x : TrF P s W s' W') (hp : ∀ a, P' a → P a ∨ s.heap.get? a = none) (y : TrF P' s' W' s'' W'') : TrF P s W s'' W'' := by
  have z := (x.mono (P' := fun a => P a ∨ s.heap.get? a = none) fun _ h => .inl h).trans (y.mono hp)
  exact ⟨z.same, fun b o e m n => z.keep b o e m fun q => q.elim n (fun q => by rw [q] at e; cases e), z.live, z.imm, z.immNew, z.muNew, z.mem⟩

/-- at the end a foreign place may change, even go -/
theorem TrF.endBut {P : Addr → Prop} {s s' : Shared} {W : Wd} {I' : Imm} {μ' : Mu} {a : Addr} {h' : Heap} {tk : Nat} (x : TrF P s W s' ⟨I', μ'⟩) (ha : s.heap.get? a = none) (hI : I' a = none) (hm : μ' a = none)
    (hs : ∀ b o, b ≠ a → s'.heap.get? b = some o → h'.get? b = some o) : TrF P s W { s' with heap := h', toks := tk } ⟨I', μ'⟩ := by
  refine ⟨?_, fun b o e m n => hs b o (fun q => ?_) (x.keep b o e m n), fun b e => ?_, x.imm, x.immNew, x.muNew, x.mem.but hI hm hs⟩
  · obtain ⟨h, t, rfl⟩ := x.same; exact ⟨_, _, rfl⟩
  · subst q; rw [ha] at e; cases e
  · have l := x.live b e
    cases q : s'.heap.get? b with
    | none => exact absurd q l
    | some o => show h'.get? b ≠ none; rw [hs b o (fun z => by subst z; exact e ha) q]; simp
/-- one foreign place changes, and stays -/
theorem TrF.onePlace {P : Addr → Prop} {s : Shared} {I : Imm} {a : Addr} {h' : Heap} {tk : Nat} (M : MemOk s.heap ⟨I, μ⟩) (hI : I a = none) (hm : μ a = none) (hP : P a)
    (hs : ∀ b o, b ≠ a → s.heap.get? b = some o → h'.get? b = some o) (hl : h'.get? a ≠ none) : TrF P s ⟨I, μ⟩ { s with heap := h', toks := tk } ⟨I, μ⟩ := by
  refine ⟨⟨_, _, rfl⟩, fun b o e _ q => hs b o (fun z => q (z ▸ hP)) e, fun b e => ?_, fun _ _ e => e, fun b e => .inl e, fun b e => .inl e, M.but hI hm hs⟩
  by_cases z : b = a
  · subst z; exact hl
  · cases q : s.heap.get? b with
    | none => exact absurd q e
    | some o => show h'.get? b ≠ none; rw [hs b o z q]; simp

/-- the turns of a for -/
inductive ForRuns (g : Gl) (sc : Scope) (n : Nat) (tgt : Expr) (body : List Stmt) : List D → Sg → Mu → Fl → Sg → Mu → Prop
  | nil {σ : Sg} {μ : Mu} : ForRuns g sc n tgt body [] σ μ .next σ μ
  | step {d : D} {ds : List D} {σ σ₁ σ₂ τ σ' : Sg} {μ μ₂ μ' : Mu} {fl : Fl} : AsS g sc σ tgt d σ₁ → ExS g sc n σ₁ μ body .next σ₂ μ₂ → Sg.Sub τ σ₂ → ForRuns g sc n tgt body ds τ μ₂ fl σ' μ' → ForRuns g sc n tgt body (d :: ds) σ μ fl σ' μ'
  | stop {d : D} {ds : List D} {σ σ₁ σ₂ : Sg} {μ μ₂ : Mu} {r : D} : AsS g sc σ tgt d σ₁ → ExS g sc n σ₁ μ body (.ret r) σ₂ μ₂ → ForRuns g sc n tgt body (d :: ds) σ μ (.ret r) σ₂ μ₂

theorem letOwned {A : Around} {s : Shared} {I : Imm} {it : Addr} {ds : List D} {tgt : Expr} {v : Value} {Q : Unit → Shared → Prop} {E : Value → Shared → Prop} (x : ItAt I s.heap it ds) (k : Q () s) : wpAny (model g.prog g.w) A (letOwnedTupleGo tgt (.ref it) v) Q E s := by
  have gen : ∀ (o : Obj) (T : String) (fs : Array Value), s.heap.get? it = some o → o.cls = .type T → o.data = .fields fs →
      (["enumerate", "zip", "dict_itemiterator", "dict_reverseitemiterator", "odict_iterator", "itertools.zip_longest", "itertools.pairwise"].contains T) = false → wpAny (model g.prog g.w) A (letOwnedTupleGo tgt (.ref it) v) Q E s := by
    intro o T fs ho hc hd hT
    cases tgt with
    | Tuple es k0 p =>
      cases v with
      | ref a =>
        unfold letOwnedTupleGo
        refine wpAny_bind (wpAny_load ho ?_)
        rw [hc, hd]
        show wpAny _ A (if (["enumerate", "zip", "dict_itemiterator", "dict_reverseitemiterator", "odict_iterator", "itertools.zip_longest", "itertools.pairwise"].contains T && fs[0]? == some (rawInt a)) = true then _ else _) Q E s
        rw [hT, Bool.false_and, if_neg (by simp)]
        exact wpAny_pure k
      | _ => exact wpAny_pure k
    | List es p =>
      cases v with
      | ref a =>
        unfold letOwnedTupleGo
        refine wpAny_bind (wpAny_load ho ?_)
        rw [hc, hd]
        show wpAny _ A (if (["enumerate", "zip", "dict_itemiterator", "dict_reverseitemiterator", "odict_iterator", "itertools.zip_longest", "itertools.pairwise"].contains T && fs[0]? == some (rawInt a)) = true then _ else _) Q E s
        rw [hT, Bool.false_and, if_neg (by simp)]
        exact wpAny_pure k
      | _ => exact wpAny_pure k
    | _ => exact wpAny_pure k
  cases x with
  | list a b cc r e => obtain ⟨o, ho, hc, hd⟩ := e; exact gen o _ _ ho hc hd (by decide)
  | tup a r e => obtain ⟨o, ho, hc, hd⟩ := e; exact gen o _ _ ho hc hd (by decide)
  | rng e => exact gen _ _ _ e rfl rfl (by decide)

theorem Ex1.for_ {tgt iter : Expr} {body : List Stmt} {pos : Pos} {d : D} {ds : List D} {fl : Fl} {σ' : Sg} {μ' : Mu} (hi : EvS g sc n σ μ iter d μ₁) (hd : d.items = some ds) (hr : ForRuns g sc n tgt body ds σ μ₁ fl σ' μ')
    (hsm : ∀ a m, d = .rng a m → -1000 ≤ a ∧ a ≤ 1000 ∧ m ≤ 1000 := by intro a m h; cases h) (hs : ∀ env x, foldedSetIterable iter env x = pure x := by intro _ _; rfl) :
    Ex1 g sc n σ μ (.For tgt iter body [] pos) fl σ' μ' := by
  intro c hsc R s I F M Q E k
  refine wpAny_For (hi c hsc R s I F M _ _ fun v s₁ I₁ T₁ r₁ => iter_data T₁.mem r₁ hd hsm fun h₂ hk₂ it₂ => ?_) (hs _)
  have fresh : s₁.heap.get? s₁.heap.objs.size = none := Heap.get_size _
  have F₁ := F.tr T₁
  obtain ⟨h0, hown⟩ := F₁.new0 fresh
  have hIμ := T₁.mem.fresh fresh
  have T₂ : TrF c.own s₁ ⟨I₁, μ₁⟩ { s₁ with heap := h₂ } ⟨I₁, μ₁⟩ := TrF.grow T₁.mem hk₂ (k := s₁.toks)
  have F₂ : FrOk g c σ h₂ ⟨I₁, μ₁⟩ := F₁.grow T₁.mem hk₂ (k := s₁.toks)
  generalize hit : s₁.heap.objs.size = it at *
  -- what holds between the turns
  refine codeAny_forLoop_any (fun m s' => ∃ I' es σc μc, m = es.length ∧ FrOk g c σc s'.heap ⟨I', μc⟩ ∧ TrF (fun b => c.own b ∨ b = it) { s₁ with heap := h₂ } ⟨I₁, μ₁⟩ s' ⟨I', μc⟩ ∧ ItAt I' s'.heap it es ∧ I' it = none ∧ μc it = none ∧ ForRuns g sc n tgt body es σc μc fl σ' μ') ?_ ds.length
    ⟨I₁, ds, σ, μ₁, rfl, F₂, TrF.refl T₂.mem, it₂, hIμ.1, hIμ.2, hr⟩
  rintro m s₃ ⟨I₃, es, σ₃, μ₃, rfl, F₃, T₃, it₃, hI₃, hμ₃, hr₃⟩
  have whole : ∀ {s' : Shared} {I' : Imm} {μc : Mu}, TrF (fun b => c.own b ∨ b = it) { s₁ with heap := h₂ } ⟨I₁, μ₁⟩ s' ⟨I', μc⟩ → TrF c.own s ⟨I, μ⟩ s' ⟨I', μc⟩ := fun T => by
    refine TrF.trans T₁.up (T₂.behind (fun a ha => ?_) T)
    rcases ha with h | h
    · exact .inl h
    · subst h; exact .inr fresh
  cases hr₃ with
  | nil =>
    refine next_end F.handled T₃.mem it₃ fun h' he => wpAny_execs_nil ?_
    have T' := whole T₃
    have fr0 : s.heap.get? it = none := by
      cases q : s.heap.get? it with
      | none => rfl
      | some o => exact absurd fresh (T₁.live it (by rw [q]; simp))
    exact k _ _ I₃ (F₃.but hown h0 (h' := h') fun b o q e => he b o q e) (T'.endBut (tk := s₃.toks) fr0 hI₃ hμ₃ fun b o q e => he b o q e) .next
  | @step d0 ds0 _ σa σb τb _ _ μb _ _ ha hb hsub hrest =>
    refine next_item T₃.mem it₃ fun v h' tk hs' it' rv => ?_
    have Ta : TrF (fun b => c.own b ∨ b = it) s₃ ⟨I₃, μ₃⟩ { s₃ with heap := h', toks := tk } ⟨I₃, μ₃⟩ := TrF.onePlace T₃.mem hI₃ hμ₃ (.inr rfl) (fun b o q e => (hs'.2 b q).trans e) it'.live
    have Fa : FrOk g c σ₃ h' ⟨I₃, μ₃⟩ := F₃.but hown h0 fun b o q e => (hs'.2 b q).trans e
    refine letOwned (s := { s₃ with heap := h', toks := tk }) it' ?_
    refine ha c hsc { s₃ with heap := h', toks := tk } I₃ μ₃ v Fa Ta.mem rv _ _ fun s₄ F₄ T₄' => ?_
    have T₄ := wrUp T₄'
    refine hb c hsc R s₄ I₃ F₄ T₄.mem _ _ fun f s₅ I₅ F₅ T₅ r₅ => ?_
    cases r₅
    have T45 := T₄.trans T₅
    have lv : ({ s₃ with heap := h', toks := tk } : Shared).heap.get? it ≠ none := it'.live
    have hm5 : μb it = none := T45.muKeep lv hμ₃
    have hI5 : I₅ it = none := T45.immKeep lv hI₃ hμ₃
    refine ⟨_, Nat.lt_succ_self ds0.length, I₅, ds0, τb, μb, rfl, F₅.weak hsub, (T₃.trans Ta).trans (T45.also it), ?_, hI5, hm5, hrest⟩
    exact it'.keep T45.imm fun o e => T45.keep it o e hμ₃ hown
  | @stop d0 ds0 _ σa σb _ μb r ha hb =>
    refine next_item T₃.mem it₃ fun v h' tk hs' it' rv => ?_
    have Ta : TrF (fun b => c.own b ∨ b = it) s₃ ⟨I₃, μ₃⟩ { s₃ with heap := h', toks := tk } ⟨I₃, μ₃⟩ := TrF.onePlace T₃.mem hI₃ hμ₃ (.inr rfl) (fun b o q e => (hs'.2 b q).trans e) it'.live
    have Fa : FrOk g c σ₃ h' ⟨I₃, μ₃⟩ := F₃.but hown h0 fun b o q e => (hs'.2 b q).trans e
    refine letOwned (s := { s₃ with heap := h', toks := tk }) it' ?_
    refine ha c hsc { s₃ with heap := h', toks := tk } I₃ μ₃ v Fa Ta.mem rv _ _ fun s₄ F₄ T₄' => ?_
    have T₄ := wrUp T₄'
    refine hb c hsc R s₄ I₃ F₄ T₄.mem _ _ fun f s₅ I₅ F₅ T₅ r₅ => ?_
    cases r₅ with
    | ret rr => exact k _ s₅ I₅ F₅ (whole ((T₃.trans Ta).trans ((T₄.trans T₅).also it))) (.ret rr)

/-- the turns of a while -/
inductive WhileRuns (g : Gl) (sc : Scope) (n : Nat) (t : Expr) (body : List Stmt) : Sg → Mu → Sg → Mu → Prop
  | done {σ : Sg} {μ : Mu} : TsS g sc n σ μ t false μ → WhileRuns g sc n t body σ μ σ μ
  | step {σ σ₂ τ σ' : Sg} {μ μ₂ μ' : Mu} : TsS g sc n σ μ t true μ → ExS g sc n σ μ body .next σ₂ μ₂ → Sg.Sub τ σ₂ → WhileRuns g sc n t body τ μ₂ σ' μ' → WhileRuns g sc n t body σ μ σ' μ'
end
-- part L7
/-! while -/
inductive WhileN (g : Gl) (sc : Scope) (n : Nat) (t : Expr) (body : List Stmt) : Nat → Sg → Mu → Sg → Mu → Prop
  | done {σ : Sg} {μ : Mu} : TsS g sc n σ μ t false μ → WhileN g sc n t body 0 σ μ σ μ
  | step {m : Nat} {σ σ₂ τ σ' : Sg} {μ μ₂ μ' : Mu} : TsS g sc n σ μ t true μ → ExS g sc n σ μ body .next σ₂ μ₂ → Sg.Sub τ σ₂ → WhileN g sc n t body m τ μ₂ σ' μ' → WhileN g sc n t body (m + 1) σ μ σ' μ'

section
variable {g : Gl} {sc : Scope} {n : Nat} {σ σ₁ σ₂ σ' τ : Sg} {μ μ₁ μ₂ μ₃ μ' : Mu} {c : Cx}

theorem Ex1.while_ {t : Expr} {body : List Stmt} {pos : Pos} {m : Nat} (hr : WhileN g sc n t body m σ μ σ' μ') : Ex1 g sc n σ μ (.While t body [] pos) .next σ' μ' := by
  intro c hsc R s I F M Q E k
  refine wpAny_While (codeAny_whileLoop (fun m s' => ∃ I' σc μc, FrOk g c σc s'.heap ⟨I', μc⟩ ∧ TrF c.own s ⟨I, μ⟩ s' ⟨I', μc⟩ ∧ WhileN g sc n t body m σc μc σ' μ') ?_ m ⟨I, σ, μ, F, TrF.refl M, hr⟩)
  rintro m s₁ ⟨I₁, σ₁, μ₁, F₁, T₁, hr₁⟩
  cases hr₁ with
  | done ht =>
    refine ht c hsc R s₁ I₁ F₁ T₁.mem _ _ fun s₂ I₂ T₂ => ?_
    rw [if_neg (by simp)]
    exact wpAny_execs_nil (k _ s₂ I₂ (F₁.tr T₂) (T₁.trans T₂.up) .next)
  | step ht hb hsub hrest =>
    refine ht c hsc R s₁ I₁ F₁ T₁.mem _ _ fun s₂ I₂ T₂ => ?_
    rw [if_pos rfl]
    refine hb c hsc R s₂ I₂ (F₁.tr T₂) T₂.mem _ _ fun f s₃ I₃ F₃ T₃ r₃ => ?_
    cases r₃
    exact ⟨_, Nat.lt_succ_self _, I₃, _, _, F₃.weak hsub, (T₁.trans T₂.up).trans T₃, hrest⟩
end

/-! comprehensions -/
def IfS (g : Gl) (sc : Scope) (n : Nat) (σ : Sg) (μ : Mu) (ifs : List Expr) (b : Bool) (μ' : Mu) : Prop :=
  ∀ (c : Cx), c.ev.scope = sc → Room c.A n → ∀ (s : Shared) (I : Imm), FrOk g c σ s.heap ⟨I, μ⟩ → MemOk s.heap ⟨I, μ⟩ → ∀ (Q : Bool → Shared → Prop) (E : Value → Shared → Prop),
    (∀ s' I', TrF NoP s ⟨I, μ⟩ s' ⟨I', μ'⟩ → Q b s') →
    wpAny (model g.prog g.w) c.A (forIn ifs true fun t r => if r = true then do let ok ← isTrue t c.ev (eval t c.ev); pure (ForInStep.yield ok) else pure (ForInStep.yield r)) Q E s

theorem IfS.nil {g : Gl} {sc : Scope} {n : Nat} {σ : Sg} {μ : Mu} : IfS g sc n σ μ [] true μ := by
  intro c hsc R s I F M Q E k
  exact wpAny_tests_nil (k s I (TrF.refl M))
theorem IfS.one {g : Gl} {sc : Scope} {n : Nat} {σ : Sg} {μ μ₁ : Mu} {t : Expr} {b : Bool} (h : TsS g sc n σ μ t b μ₁) : IfS g sc n σ μ [t] b μ₁ := by
  intro c hsc R s I F M Q E k
  exact wpAny_tests_one (h c hsc R s I F M _ _ k)

/-- the turns of the innermost for of a comprehension -/
inductive C1 (g : Gl) (sc : Scope) (n : Nat) (tgt : Expr) (ifs : List Expr) (elt : Expr) : List D → Sg → Mu → List D → Sg → Mu → Prop
  | nil {σ : Sg} {μ : Mu} : C1 g sc n tgt ifs elt [] σ μ [] σ μ
  | skip {d : D} {ds out : List D} {σ σ₁ τ σ' : Sg} {μ μ₁ μ' : Mu} : AsS g sc σ tgt d σ₁ → IfS g sc n σ₁ μ ifs false μ₁ → Sg.Sub τ σ₁ → C1 g sc n tgt ifs elt ds τ μ₁ out σ' μ' → C1 g sc n tgt ifs elt (d :: ds) σ μ out σ' μ'
  | take {d e : D} {ds out : List D} {σ σ₁ τ σ' : Sg} {μ μ₁ μ₂ μ' : Mu} : AsS g sc σ tgt d σ₁ → IfS g sc n σ₁ μ ifs true μ₁ → EvS g sc n σ₁ μ₁ elt e μ₂ → Sg.Sub τ σ₁ → C1 g sc n tgt ifs elt ds τ μ₂ out σ' μ' → C1 g sc n tgt ifs elt (d :: ds) σ μ (e :: out) σ' μ'
/-- two fors -/
inductive C2 (g : Gl) (sc : Scope) (n : Nat) (t1 : Expr) (i2 : Expr) (t2 : Expr) (elt : Expr) : List D → Sg → Mu → List D → Sg → Mu → Prop
  | nil {σ : Sg} {μ : Mu} : C2 g sc n t1 i2 t2 elt [] σ μ [] σ μ
  | step {d d2 : D} {ds ds2 out out2 : List D} {σ σ₁ σ₂ τ σ' : Sg} {μ μ₁ μ₂ μ' : Mu} : AsS g sc σ t1 d σ₁ → EvS g sc n σ₁ μ i2 d2 μ₁ → d2.items = some ds2 → (∀ a m, d2 = .rng a m → -1000 ≤ a ∧ a ≤ 1000 ∧ m ≤ 1000) →
      C1 g sc n t2 [] elt ds2 σ₁ μ₁ out σ₂ μ₂ → Sg.Sub τ σ₂ → C2 g sc n t1 i2 t2 elt ds τ μ₂ out2 σ' μ' → C2 g sc n t1 i2 t2 elt (d :: ds) σ μ (out ++ out2) σ' μ'

/-- a place that is none of the frame's and none of the data's -/
structure Fgn (c : Cx) (h : Heap) (I : Imm) (μ : Mu) (a : Addr) : Prop where
  hI : I a = none
  hm : μ a = none
  hown : ¬ c.own a
  h0 : c.h₀.get? a = none
  live : h.get? a ≠ none

theorem Fgn.tr {c : Cx} {P : Addr → Prop} {s s' : Shared} {I I' : Imm} {μ μ' : Mu} {a : Addr} (x : Fgn c s.heap I μ a) (T : TrF P s ⟨I, μ⟩ s' ⟨I', μ'⟩) : Fgn c s'.heap I' μ' a :=
  ⟨T.immKeep x.live x.hI x.hm, T.muKeep x.live x.hm, x.hown, x.h0, T.live _ x.live⟩

theorem TrF.past {P : Addr → Prop} {s s' s'' : Shared} {W W' W'' : Wd} (x : TrF NoP s W s' W') (hp : ∀ a, P a → s.heap.get? a = none) (y : TrF P s' W' s'' W'') : TrF NoP s W s'' W'' :=
  x.behind (fun a h => .inr (hp a h)) y

section
variable {g : Gl} {sc : Scope} {n : Nat} {σ σ₁ σ₂ σ' τ : Sg} {μ μ₁ μ₂ μ₃ μ' : Mu} {c : Cx}

def turn1 (g : Gl) (E0 : Expr) (depth : Nat) (tgt : Expr) (ifs : List Expr) (elt : Expr) (p : Pos) : Prop :=
  ∀ (it acc : Value) (env : Env), compTurn E0 depth it acc env = (do
      standAt p
      match ← pyNext it with
      | none => pure (.done .next)
      | some v =>
        letOwnedTupleGo tgt it v
        assign tgt env v
        let mut ok := true
        for c in ifs do
          if ok then ok ← isTrue c env (eval c env)
        if ok then
          (do let _ ← call (.builtin "list.append") [acc, ← eval elt env])
        again (.compLoop E0 depth it acc env))

theorem c1_sound {elt0 : Expr} {gens : List Comprehension} {scope : Scope} {epos : Pos} {depth : Nat} {tgt elt : Expr} {ifs : List Expr} {p : Pos} (hT : turn1 g (.ListComp elt0 gens scope epos) depth tgt ifs elt p) {ds out : List D}
    (r : C1 g sc n tgt ifs elt ds σ μ out σ' μ') : ∀ (c : Cx), c.ev.scope = sc → Room c.A n → ∀ (s0 : Shared) (W0 : Wd) (s : Shared) (I : Imm) (it Dl : Addr) (ws : List Value) (done : List D) (X : Addr → Prop), (∀ a, X a → Fgn c s.heap I μ a ∧ a ≠ it ∧ a ≠ Dl) →
    FrOk g c σ s.heap ⟨I, μ⟩ → TrF NoP s0 W0 s ⟨I, μ⟩ → ItAt I s.heap it ds → Fgn c s.heap I μ it → Fgn c s.heap I μ Dl → it ≠ Dl → s.heap.PlainList Dl ws.toArray → Reps I ws done → done.length + out.length ≤ 2000 →
    s0.heap.get? it = none → s0.heap.get? Dl = none → (∀ a, c.wr (tnames tgt) a → s0.heap.get? a = none) →
    ∀ (RR : Result → Shared → Prop), (∀ s' I' ws', FrOk g c σ' s'.heap ⟨I', μ'⟩ → TrF NoP s0 W0 s' ⟨I', μ'⟩ → Fgn c s'.heap I' μ' Dl → s'.heap.PlainList Dl ws'.toArray → Reps I' ws' (done ++ out) → I.Sub I' → (∀ a, X a → Fgn c s'.heap I' μ' a ∧ ∀ o, s.heap.get? a = some o → s'.heap.get? a = some o) → RR (.ok .next) s') →
    codeAny (model g.prog g.w) c.A (.compLoop (.ListComp elt0 gens scope epos) depth (.ref it) (.ref Dl) c.ev) RR s := by
  induction r with
  | nil =>
    intro c hsc R s0 W0 s I it Dl ws done X hX F T0 hit fit fD hne hl hr hsz f1 f2 hw RR k
    refine codeAny_of_tree ?_
    show wpAny _ c.A ((compTurn (.ListComp elt0 gens scope epos) depth (.ref it) (.ref Dl) c.ev).onRaise (fun x => do noteFrame x c.ev; theTreesLotGoes x)) _ _ s
    refine wpAny_noted ?_
    rw [hT]
    refine wpAny_bind (wpAny_standAt (wpAny_bind (next_end F.handled T0.mem hit fun h' he => wpAny_pure ?_)))
    refine k _ I ws (F.but fit.hown fit.h0 fun b o q e => he b o q e) (T0.endBut (tk := s.toks) f1 fit.hI fit.hm fun b o q e => he b o q e) ⟨fD.hI, fD.hm, fD.hown, fD.h0, ?_⟩ ?_ (by simpa using hr) (fun _ _ e => e) (fun a ha => ?_)
    · obtain ⟨m, hm⟩ := hl
      show h'.get? Dl ≠ none
      rw [he Dl _ (Ne.symm hne) hm]; simp
    · obtain ⟨m, hm⟩ := hl
      exact ⟨m, he Dl _ (Ne.symm hne) hm⟩
    · obtain ⟨fa, n1, n2⟩ := hX a ha
      refine ⟨⟨fa.hI, fa.hm, fa.hown, fa.h0, ?_⟩, fun o e => he a o n1 e⟩
      cases q : s.heap.get? a with
      | none => exact absurd q fa.live
      | some o => show h'.get? a ≠ none; rw [he a o n1 q]; simp
  | @skip d ds out σ σ₁ τ σ' μ μ₁ μ' ha hf hsub hrest ih =>
    intro c hsc R s0 W0 s I it Dl ws done X hX F T0 hit fit fD hne hl hr hsz f1 f2 hw RR k
    refine codeAny_of_tree ?_
    show wpAny _ c.A ((compTurn (.ListComp elt0 gens scope epos) depth (.ref it) (.ref Dl) c.ev).onRaise (fun x => do noteFrame x c.ev; theTreesLotGoes x)) _ _ s
    refine wpAny_noted ?_
    rw [hT]
    refine wpAny_bind (wpAny_standAt (wpAny_bind (next_item T0.mem hit fun v h' tk hs' it' rv => ?_)))
    have Ta : TrF (fun b => b = it) s ⟨I, μ⟩ { s with heap := h', toks := tk } ⟨I, μ⟩ := TrF.onePlace T0.mem fit.hI fit.hm rfl (fun b o q e => (hs'.2 b q).trans e) it'.live
    have Fa : FrOk g c σ h' ⟨I, μ⟩ := F.but fit.hown fit.h0 fun b o q e => (hs'.2 b q).trans e
    have T1 := T0.past (fun a h => by subst h; exact f1) Ta
    refine wpAny_bind (letOwned (s := { s with heap := h', toks := tk }) it' ?_)
    refine wpAny_bind (ha c hsc { s with heap := h', toks := tk } I μ v Fa Ta.mem rv _ _ fun s₄ F₄ T₄ => ?_)
    refine wpAny_bind (hf c hsc R s₄ I F₄ T₄.mem _ _ fun s₅ I₅ T₅ => ?_)
    rw [if_neg (by simp)]
    refine wpAny_pure ⟨rfl, ?_⟩
    have T2 := (T1.past hw T₄).trans T₅
    have T45 := (wrUp T₄).trans T₅.up
    have fit' : Fgn c s₅.heap I₅ μ₁ it := ((fit.tr Ta).tr (wrUp T₄)).tr T₅
    have fD' : Fgn c s₅.heap I₅ μ₁ Dl := ((fD.tr Ta).tr (wrUp T₄)).tr T₅
    obtain ⟨m, hm⟩ := hl
    refine ih c hsc R s0 W0 s₅ I₅ it Dl ws done X (fun a ha => ⟨(((hX a ha).1.tr Ta).tr (wrUp T₄)).tr T₅, (hX a ha).2⟩) ((F₄.tr T₅).weak hsub) T2 (it'.keep T45.imm fun o e => T45.keep it o e fit.hm fit.hown) fit' fD' hne ⟨m, T45.keep Dl _ ((hs'.2 Dl (Ne.symm hne)).trans hm) fD.hm fD.hown⟩ (hr.mono T45.imm) hsz f1 f2 hw RR ?_
    intro s' I' ws' F' T' f' l' r' sub' x'
    exact k s' I' ws' F' T' f' l' r' (fun a o e => sub' a o (T45.imm a o e)) fun a ha => ⟨(x' a ha).1, fun o e => (x' a ha).2 o (T45.keep a o ((hs'.2 a (hX a ha).2.1).trans e) (hX a ha).1.hm (hX a ha).1.hown)⟩
  | @take d e ds out σ σ₁ τ σ' μ μ₁ μ₂ μ' ha hf he hsub hrest ih =>
    intro c hsc R s0 W0 s I it Dl ws done X hX F T0 hit fit fD hne hl hr hsz f1 f2 hw RR k
    refine codeAny_of_tree ?_
    show wpAny _ c.A ((compTurn (.ListComp elt0 gens scope epos) depth (.ref it) (.ref Dl) c.ev).onRaise (fun x => do noteFrame x c.ev; theTreesLotGoes x)) _ _ s
    refine wpAny_noted ?_
    rw [hT]
    refine wpAny_bind (wpAny_standAt (wpAny_bind (next_item T0.mem hit fun v h' tk hs' it' rv => ?_)))
    have Ta : TrF (fun b => b = it) s ⟨I, μ⟩ { s with heap := h', toks := tk } ⟨I, μ⟩ := TrF.onePlace T0.mem fit.hI fit.hm rfl (fun b o q e => (hs'.2 b q).trans e) it'.live
    have Fa : FrOk g c σ h' ⟨I, μ⟩ := F.but fit.hown fit.h0 fun b o q e => (hs'.2 b q).trans e
    have T1 := T0.past (fun a h => by subst h; exact f1) Ta
    refine wpAny_bind (letOwned (s := { s with heap := h', toks := tk }) it' ?_)
    refine wpAny_bind (ha c hsc { s with heap := h', toks := tk } I μ v Fa Ta.mem rv _ _ fun s₄ F₄ T₄ => ?_)
    refine wpAny_bind (hf c hsc R s₄ I F₄ T₄.mem _ _ fun s₅ I₅ T₅ => ?_)
    rw [if_pos rfl]
    refine wpAny_bind (wpAny_bind (he c hsc R s₅ I₅ (F₄.tr T₅) T₅.mem _ _ fun y s₆ I₆ T₆ ry => ?_))
    have T2 := ((T1.past hw T₄).trans T₅).trans T₆
    have T45 := ((wrUp T₄).trans T₅.up).trans T₆.up
    have fit' : Fgn c s₆.heap I₆ μ₂ it := (((fit.tr Ta).tr (wrUp T₄)).tr T₅).tr T₆
    have fD' : Fgn c s₆.heap I₆ μ₂ Dl := (((fD.tr Ta).tr (wrUp T₄)).tr T₅).tr T₆
    obtain ⟨m, hm⟩ := hl
    have hl6 : s₆.heap.PlainList Dl ws.toArray := ⟨m, T45.keep Dl _ ((hs'.2 Dl (Ne.symm hne)).trans hm) fD.hm fD.hown⟩
    have hr6 : Reps I₆ ws done := hr.mono T45.imm
    refine wpAny_bind (wpAny_list_append_plain hl6 (fun h₇ hl₇ hs₇ => wpAny_pure (wpAny_pure ⟨rfl, ?_⟩)) (by rw [List.size_toArray, hr6.length, sizeLine_eq]; simp only [List.length_cons] at hsz; omega))
    rw [List.push_toArray] at hl₇
    have lv : h₇.get? Dl ≠ none := by obtain ⟨m7, hm7⟩ := hl₇; rw [hm7]; simp
    have T7 : TrF (fun b => b = Dl) s₆ ⟨I₆, μ₂⟩ { s₆ with heap := h₇, toks := s₆.toks } ⟨I₆, μ₂⟩ := TrF.onePlace T₆.mem fD'.hI fD'.hm rfl (fun b o q e => (hs₇.2 b q).trans e) lv
    have F7 : FrOk g c σ₁ h₇ ⟨I₆, μ₂⟩ := ((F₄.tr T₅).tr T₆).but fD'.hown fD'.h0 fun b o q e => (hs₇.2 b q).trans e
    have T8 := T2.past (fun a h => by subst h; exact f2) T7
    have it7 : ItAt I₆ h₇ it ds := (it'.keep (J := I₆) (h' := s₆.heap) T45.imm fun o e => T45.keep it o e fit.hm fit.hown).keep (fun _ _ e => e) fun o e => (hs₇.2 it hne).trans e
    refine ih c hsc R s0 W0 { s₆ with heap := h₇ } I₆ it Dl (ws ++ [y]) (done ++ [e]) X (fun a ha => ⟨((((((hX a ha).1.tr Ta).tr (wrUp T₄)).tr T₅).tr T₆).tr T7), (hX a ha).2⟩) (F7.weak hsub) T8 it7 (fit'.tr T7) (fD'.tr T7) hne hl₇ (hr6.snoc ry) (by simp only [List.length_append, List.length_cons, List.length_nil] at hsz ⊢; omega) f1 f2 hw RR ?_
    intro s' I' ws' F' T' f' l' r' sub' x'
    exact k s' I' ws' F' T' f' l' (by simpa using r') (fun a o e => sub' a o (T45.imm a o e)) fun a ha => ⟨(x' a ha).1, fun o e => (x' a ha).2 o ((hs₇.2 a (hX a ha).2.2).trans (T45.keep a o ((hs'.2 a (hX a ha).2.1).trans e) (hX a ha).1.hm (hX a ha).1.hown))⟩
end
-- part L8
section
variable {g : Gl} {sc : Scope} {n : Nat} {σ σ₁ σ₂ σ' τ : Sg} {μ μ₁ μ₂ μ₃ μ' : Mu} {c : Cx}

def turn2 (E0 : Expr) (t1 i1 i2 : Expr) : Prop :=
  ∀ (it acc : Value) (env : Env), compTurn E0 0 it acc env = (do
      standAt i1.pos
      match ← pyNext it with
      | none => pure (.done .next)
      | some v =>
        letOwnedTupleGo t1 it v
        assign t1 env v
        let x ← eval i2 env
        standAt i2.pos
        let x ← foldedSetIterable i2 env x
        let _ ← runOwn (.compStart E0 1 (← holding [x] (pyIter x)) acc env) env
        again (.compLoop E0 0 it acc env))

theorem codeAny_compStart1 {A : Around} {R : Result → Shared → Prop} {s : Shared} {elt t1 t2 i1 i2 : Expr} {scope : Scope} {pos : Pos} {it acc : Value} {env : Env}
    (h0 : codeAny (model g.prog g.w) A (.compLoop (.ListComp elt [⟨t1, i1, [], 0⟩, ⟨t2, i2, [], 0⟩] scope pos) 1 it acc env) R s)
    (h : wpAny (model g.prog g.w) A (pyIter it) (fun it' s' => codeAny (model g.prog g.w) A (.compLoop (.ListComp elt [⟨t1, i1, [], 0⟩, ⟨t2, i2, [], 0⟩] scope pos) 1 it' acc env) R s')
      (notedBy (model g.prog g.w) A env fun x s' => R (.error x) s') s) :
    codeAny (model g.prog g.w) A (.compStart (.ListComp elt [⟨t1, i1, [], 0⟩, ⟨t2, i2, [], 0⟩] scope pos) 1 it acc env) R s := by
  refine codeAny_of_tree ?_
  show wpAny _ _ ((compStart (.ListComp elt [⟨t1, i1, [], 0⟩, ⟨t2, i2, [], 0⟩] scope pos) 1 it acc env).onRaise (fun x => do noteFrame x env; standAt theWindowsPlace)) _ _ s
  refine wpAny_notedAt ?_
  unfold compStart
  show wpAny _ _ (ask >>= _) _ _ s
  refine wpAny_bind (wpAny_askSetting (wpAny_ite ?_))
  split
  · first
      | exact wpAny_bind (wpAny_pure (wpAny_pure (And.intro rfl h0)))
      | exact wpAny_pure (And.intro rfl h0)
  · first
      | exact wpAny_bind (wpAny_rule (wpAny_bind (wpAny_standAt (wpAny_bind (wpAny_mono h (fun it' s' h' => wpAny_pure (And.intro rfl h')) fun _ _ x => x)))))
      | (refine wpAny_bind (wpAny_rule ?_); show wpAny _ _ (standAt i2.pos >>= _) _ _ s; exact wpAny_bind (wpAny_standAt (wpAny_bind (wpAny_mono h (fun it' s' h' => wpAny_pure (And.intro rfl h')) fun _ _ x => x))))

theorem c2_sound {elt t1 t2 i1 i2 : Expr} {scope : Scope} {epos : Pos} (hs2 : ∀ env x, foldedSetIterable i2 env x = pure x) (hT : turn2 (.ListComp elt [⟨t1, i1, [], 0⟩, ⟨t2, i2, [], 0⟩] scope epos) t1 i1 i2)
    (hT1 : turn1 g (.ListComp elt [⟨t1, i1, [], 0⟩, ⟨t2, i2, [], 0⟩] scope epos) 1 t2 [] elt i2.pos) {ds out : List D}
    (r : C2 g sc n t1 i2 t2 elt ds σ μ out σ' μ') : ∀ (c : Cx), c.ev.scope = sc → Room c.A n → ∀ (s0 : Shared) (W0 : Wd) (s : Shared) (I : Imm) (it Dl : Addr) (ws : List Value) (done : List D),
    FrOk g c σ s.heap ⟨I, μ⟩ → TrF NoP s0 W0 s ⟨I, μ⟩ → ItAt I s.heap it ds → Fgn c s.heap I μ it → Fgn c s.heap I μ Dl → it ≠ Dl → s.heap.PlainList Dl ws.toArray → Reps I ws done → done.length + out.length ≤ 2000 →
    s0.heap.get? it = none → s0.heap.get? Dl = none → (∀ a, c.wr (tnames t1) a → s0.heap.get? a = none) → (∀ a, c.wr (tnames t2) a → s0.heap.get? a = none) →
    ∀ (RR : Result → Shared → Prop), (∀ s' I' ws', FrOk g c σ' s'.heap ⟨I', μ'⟩ → TrF NoP s0 W0 s' ⟨I', μ'⟩ → Fgn c s'.heap I' μ' Dl → s'.heap.PlainList Dl ws'.toArray → Reps I' ws' (done ++ out) → RR (.ok .next) s') →
    codeAny (model g.prog g.w) c.A (.compLoop (.ListComp elt [⟨t1, i1, [], 0⟩, ⟨t2, i2, [], 0⟩] scope epos) 0 (.ref it) (.ref Dl) c.ev) RR s := by
  induction r with
  | nil =>
    intro c hsc R s0 W0 s I it Dl ws done F T0 hit fit fD hne hl hr hsz f1 f2 hw hw2 RR k
    refine codeAny_of_tree ?_
    show wpAny _ c.A ((compTurn _ 0 (.ref it) (.ref Dl) c.ev).onRaise (fun x => do noteFrame x c.ev; theTreesLotGoes x)) _ _ s
    refine wpAny_noted ?_
    rw [hT]
    refine wpAny_bind (wpAny_standAt (wpAny_bind (next_end F.handled T0.mem hit fun h' he => wpAny_pure ?_)))
    refine k _ I ws (F.but fit.hown fit.h0 fun b o q e => he b o q e) (T0.endBut (tk := s.toks) f1 fit.hI fit.hm fun b o q e => he b o q e) ⟨fD.hI, fD.hm, fD.hown, fD.h0, ?_⟩ ?_ (by simpa using hr)
    · obtain ⟨m, hm⟩ := hl
      show h'.get? Dl ≠ none
      rw [he Dl _ (Ne.symm hne) hm]; simp
    · obtain ⟨m, hm⟩ := hl
      exact ⟨m, he Dl _ (Ne.symm hne) hm⟩
  | @step d d2 ds ds2 out out2 σ σ₁ σ₂ τ σ' μ μ₁ μ₂ μ' ha he hd2 hsm hc1 hsub hrest ih =>
    intro c hsc R s0 W0 s I it Dl ws done F T0 hit fit fD hne hl hr hsz f1 f2 hw hw2 RR k
    refine codeAny_of_tree ?_
    show wpAny _ c.A ((compTurn _ 0 (.ref it) (.ref Dl) c.ev).onRaise (fun x => do noteFrame x c.ev; theTreesLotGoes x)) _ _ s
    refine wpAny_noted ?_
    rw [hT]
    refine wpAny_bind (wpAny_standAt (wpAny_bind (next_item T0.mem hit fun v h' tk hs' it' rv => ?_)))
    have Ta : TrF (fun b => b = it) s ⟨I, μ⟩ { s with heap := h', toks := tk } ⟨I, μ⟩ := TrF.onePlace T0.mem fit.hI fit.hm rfl (fun b o q e => (hs'.2 b q).trans e) it'.live
    have Fa : FrOk g c σ h' ⟨I, μ⟩ := F.but fit.hown fit.h0 fun b o q e => (hs'.2 b q).trans e
    have T1 := T0.past (fun a h => by subst h; exact f1) Ta
    refine wpAny_bind (letOwned (s := { s with heap := h', toks := tk }) it' ?_)
    refine wpAny_bind (ha c hsc { s with heap := h', toks := tk } I μ v Fa Ta.mem rv _ _ fun s₄ F₄ T₄ => ?_)
    refine wpAny_bind (he c hsc R s₄ I F₄ T₄.mem _ _ fun x s₅ I₅ T₅ rx => ?_)
    refine wpAny_bind (wpAny_standAt (wpAny_bind (wpAny_of_eq (hs2 _ _) (wpAny_bind (wpAny_holding (iter_data T₅.mem rx hd2 hsm fun h₆ hk₆ it₆ => ?_))))))
    have F₅ := F₄.tr T₅
    have T2 := (T1.past hw T₄).trans T₅
    have T45 := (wrUp T₄).trans T₅.up
    have fit5 : Fgn c s₅.heap I₅ μ₁ it := ((fit.tr Ta).tr (wrUp T₄)).tr T₅
    have fD5 : Fgn c s₅.heap I₅ μ₁ Dl := ((fD.tr Ta).tr (wrUp T₄)).tr T₅
    have T56 : TrF NoP s₅ ⟨I₅, μ₁⟩ { s₅ with heap := h₆ } ⟨I₅, μ₁⟩ := TrF.grow T₅.mem hk₆ (k := s₅.toks)
    have T3 := T2.trans T56
    have fresh : s₅.heap.get? s₅.heap.objs.size = none := Heap.get_size _
    have hIμ := T₅.mem.fresh fresh
    obtain ⟨n0, nown⟩ := F₅.new0 fresh
    have back : ∀ b, s₅.heap.get? b = none → s0.heap.get? b = none := fun b q => by
      cases e : s0.heap.get? b with
      | none => rfl
      | some o => exact absurd q (T2.live b (by rw [e]; simp))
    have i2ne : s₅.heap.objs.size ≠ Dl := fun q => fD5.live (q ▸ fresh)
    have ine2 : s₅.heap.objs.size ≠ it := fun q => fit5.live (q ▸ fresh)
    have f6 : Fgn c h₆ I₅ μ₁ s₅.heap.objs.size := ⟨hIμ.1, hIμ.2, nown, n0, it₆.live⟩
    have F6 : FrOk g c σ₁ h₆ ⟨I₅, μ₁⟩ := F₅.grow T₅.mem hk₆ (k := s₅.toks)
    obtain ⟨m, hm⟩ := hl
    have hl5 : s₅.heap.get? Dl = some _ := T45.keep Dl _ ((hs'.2 Dl (Ne.symm hne)).trans hm) fD.hm fD.hown
    have it5 : ItAt I₅ s₅.heap it ds := it'.keep T45.imm fun o e => T45.keep it o e fit.hm fit.hown
    have lenb : done.length + out.length ≤ 2000 := by simp only [List.length_append] at hsz; omega
    -- the inner loop
    have inner : ∀ (s₇ : Shared), s₇ = { s₅ with heap := h₆ } → ∀ (RR' : Result → Shared → Prop), (∀ s' I' ws', FrOk g c σ₂ s'.heap ⟨I', μ₂⟩ → TrF NoP s0 W0 s' ⟨I', μ₂⟩ → Fgn c s'.heap I' μ₂ Dl → s'.heap.PlainList Dl ws'.toArray → Reps I' ws' (done ++ out) → I₅.Sub I' → (Fgn c s'.heap I' μ₂ it ∧ ∀ o, h₆.get? it = some o → s'.heap.get? it = some o) → RR' (.ok .next) s') →
        codeAny (model g.prog g.w) c.A (.compLoop (.ListComp elt [⟨t1, i1, [], 0⟩, ⟨t2, i2, [], 0⟩] scope epos) 1 (.ref s₅.heap.objs.size) (.ref Dl) c.ev) RR' s₇ := by
      rintro s₇ rfl RR' k'
      refine c1_sound hT1 hc1 c hsc R s0 W0 { s₅ with heap := h₆ } I₅ s₅.heap.objs.size Dl ws done (fun a => a = it) (fun a ha => by subst ha; exact ⟨fit5.tr T56, Ne.symm ine2, hne⟩) F6 T3 it₆ f6 (fD5.tr T56) i2ne ⟨m, hk₆ _ _ hl5⟩ (hr.mono T45.imm) lenb (back _ fresh) f2 hw2 RR' ?_
      intro s' I' ws' F' T' f' l' r' sub' x'
      exact k' s' I' ws' F' T' f' l' r' sub' (x' it rfl)
    have go : ∀ (RR' : Result → Shared → Prop), (∀ s' I' ws', FrOk g c σ₂ s'.heap ⟨I', μ₂⟩ → TrF NoP s0 W0 s' ⟨I', μ₂⟩ → Fgn c s'.heap I' μ₂ Dl → s'.heap.PlainList Dl ws'.toArray → Reps I' ws' (done ++ out) → I₅.Sub I' → (Fgn c s'.heap I' μ₂ it ∧ ∀ o, h₆.get? it = some o → s'.heap.get? it = some o) → RR' (.ok .next) s') →
        codeAny (model g.prog g.w) c.A (.compStart (.ListComp elt [⟨t1, i1, [], 0⟩, ⟨t2, i2, [], 0⟩] scope epos) 1 (.ref s₅.heap.objs.size) (.ref Dl) c.ev) RR' { s₅ with heap := h₆ } := by
      intro RR' k'
      exact codeAny_compStart1 (inner _ rfl RR' k') (iter_self it₆ (inner _ rfl RR' k'))
    refine wpAny_bind (wpAny_runOwn (h := none) (go _ fun s' I' ws' F' T' f' l' r' sub' x' => ?_))
    refine wpAny_pure ⟨rfl, ?_⟩
    have it' : ItAt I' s'.heap it ds := it5.keep sub' fun o e => x'.2 o (hk₆ it o e)
    refine ih c hsc R s0 W0 s' I' it Dl ws' (done ++ out) (F'.weak hsub) T' it' x'.1 f' hne l' r' (by simp only [List.length_append] at hsz ⊢; omega) f1 f2 hw hw2 RR fun s'' I'' ws'' F'' T'' f'' l'' r'' => ?_
    exact k s'' I'' ws'' F'' T'' f'' l'' (by simpa using r'')
end
-- part L9
/-! the cells that a comprehension takes over -/
theorem closure_go (env : Env) : ∀ (names : List (Str × NameKind)) (acc : List (Str × Addr)), (∀ x, (x, NameKind.free) ∈ names → ∃ a, env.cells.lookup x = some a) → (∀ x a, acc.lookup x = some a → env.cells.lookup x = some a) →
    ∃ cl, (forIn names acc fun (x : Str × NameKind) (cs : List (Str × Addr)) => (do
      if x.2 == .free then do
        let a ← cellOf env x.1
        pure (ForInStep.yield ((x.1, a) :: cs))
      else pure (ForInStep.yield cs) : Sem (ForInStep (List (Str × Addr))))) = pure cl ∧ (∀ x a, cl.lookup x = some a → env.cells.lookup x = some a) ∧ (∀ x, ((x, NameKind.free) ∈ names ∨ ∃ a, acc.lookup x = some a) → ∃ a, cl.lookup x = some a)
  | [], acc, _, h => ⟨acc, by rw [List.forIn_nil], h, fun x hx => by rcases hx with hx | hx; · cases hx
                                                                     · exact hx⟩
  | (y, k) :: r, acc, hf, h => by
    rw [List.forIn_cons]
    by_cases hk : (k == NameKind.free) = true
    · have hk' : k = .free := by simpa using hk
      subst hk'
      obtain ⟨a, ha⟩ := hf y (.head _)
      have hacc : ∀ x b, ((y, a) :: acc).lookup x = some b → env.cells.lookup x = some b := fun x b e => by
        rw [List.lookup_cons] at e
        by_cases q : (x == y) = true
        · rw [q] at e; cases e; rw [beq_iff_eq.mp q]; exact ha
        · simp only [Bool.not_eq_true] at q; rw [q] at e; exact h x b e
      obtain ⟨cl, e1, e2, e3⟩ := closure_go env r ((y, a) :: acc) (fun x hx => hf x (.tail _ hx)) hacc
      refine ⟨cl, ?_, e2, fun x hx => e3 x ?_⟩
      · simp only [beq_self_eq_true, if_true, cellOf, ha]
        exact e1
      · by_cases q : (x == y) = true
        · exact .inr ⟨a, by rw [List.lookup_cons, q]⟩
        · rcases hx with hx | ⟨b, hb⟩
          · rcases List.mem_cons.mp hx with e | hx
            · exact absurd (by rw [(Prod.mk.inj e).1]; simp) q
            · exact .inl hx
          · simp only [Bool.not_eq_true] at q
            exact .inr ⟨b, by rw [List.lookup_cons, q]; exact hb⟩
    · obtain ⟨cl, e1, e2, e3⟩ := closure_go env r acc (fun x hx => hf x (.tail _ hx)) h
      refine ⟨cl, ?_, e2, fun x hx => e3 x ?_⟩
      · simp only [Bool.not_eq_true] at hk
        simp only [hk, Bool.false_eq_true, if_false]
        exact e1
      · rcases hx with hx | hx
        · rcases List.mem_cons.mp hx with e | hx
          · rw [← (Prod.mk.inj e).2] at hk; exact absurd rfl hk
          · exact .inl hx
        · exact .inr hx
theorem closure_of (scope : Scope) (env : Env) (hf : ∀ x, (x, NameKind.free) ∈ scope.names → ∃ a, env.cells.lookup x = some a) :
    ∃ cl, closureFor scope env = pure cl ∧ (∀ x a, cl.lookup x = some a → env.cells.lookup x = some a) ∧ (∀ x, (x, NameKind.free) ∈ scope.names → ∃ a, cl.lookup x = some a) := by
  obtain ⟨cl, e1, e2, e3⟩ := closure_go env scope.names [] hf (fun x a e => by cases e)
  refine ⟨cl, ?_, e2, fun x hx => e3 x (.inl hx)⟩
  unfold closureFor
  simp only [bind_pure]
  exact e1

theorem newEnv_comp {M : Model} {A : Around} {E : Value → Shared → Prop} {s : Shared} {scope : Scope} {gl : Addr} {cl : List (Str × Addr)} {qual : Str} {env : Env} {Q : Env → Shared → Prop}
    (h : Q { scope := scope, locals := s.heap.objs.size, globals := gl, cells := cellsFrom (s.heap.objs.size + 1) scope.names cl, qual := qual, func := none, code := env.code, frame := env.frame, builtins := env.builtins }
      { s with heap := pushCells (s.heap.push { cls := .type "dict", data := .dict #[] }) scope.names }) :
    wpAny M A (newFunctionEnv scope gl cl [] qual none .none (some env)) Q E s := by
  simp only [newFunctionEnv, Option.isSome_some, if_true]
  refine wpAny_bind (wpAny_alloc ?_)
  refine wpAny_bind (wpAny_layCells _ (fun name kind cells => by cases hkc : kind == NameKind.cell <;> simp [hkc]) _ _ _ _ ?_)
  rw [List.forIn_nil]
  refine wpAny_bind (wpAny_pure (wpAny_pure ?_))
  have e : ({ s with heap := s.heap.push { cls := .type "dict", data := .dict #[] } } : Shared).heap.objs.size = s.heap.objs.size + 1 := Heap.size_push ..
  rw [e]
  exact h

theorem pushCells_ge : ∀ (names : List (Str × NameKind)) (h : Heap), h.objs.size ≤ (pushCells h names).objs.size
  | [], _ => Nat.le_refl _
  | (_, k) :: r, h => by
    unfold pushCells
    split
    · exact Nat.le_trans (by rw [Heap.size_push]; omega) (pushCells_ge r _)
    · exact pushCells_ge r h

/-- what cellsFrom lays -/
theorem cells_of : ∀ (names : List (Str × NameKind)) (h : Heap) (acc : List (Str × Addr)), (∀ x a, acc.lookup x = some a → a < h.objs.size) → (∀ x y a, acc.lookup x = some a → acc.lookup y = some a → x = y) →
    (∀ x a, (cellsFrom h.objs.size names acc).lookup x = some a → acc.lookup x = some a ∨ (h.objs.size ≤ a ∧ (pushCells h names).IsCell a none)) ∧
    (∀ x y a, (cellsFrom h.objs.size names acc).lookup x = some a → (cellsFrom h.objs.size names acc).lookup y = some a → x = y) ∧
    (∀ x, (x, NameKind.cell) ∈ names → ∃ a, h.objs.size ≤ a ∧ (cellsFrom h.objs.size names acc).lookup x = some a) ∧
    (∀ x, (x, NameKind.cell) ∉ names → (cellsFrom h.objs.size names acc).lookup x = acc.lookup x)
  | [], h, acc, hl, hi => ⟨fun x a e => .inl e, hi, fun x hx => (by cases hx), fun _ _ => rfl⟩
  | (y, k) :: r, h, acc, hl, hi => by
    unfold cellsFrom pushCells
    by_cases hk : (k == NameKind.cell) = true
    · have hk' : k = .cell := by simpa using hk
      subst hk'
      rw [if_pos hk, if_pos hk]
      have sz : (h.push { cls := .type "cell", data := .cell none }).objs.size = h.objs.size + 1 := Heap.size_push ..
      have hl' : ∀ x a, ((y, h.objs.size) :: acc).lookup x = some a → a < (h.push { cls := .type "cell", data := .cell none }).objs.size := fun x a e => by
        rw [sz]
        rw [List.lookup_cons] at e
        cases q : x == y with
        | true => rw [q] at e; cases e; exact Nat.lt_succ_self _
        | false => rw [q] at e; exact Nat.lt_succ_of_lt (hl x a e)
      have hi' : ∀ x z a, ((y, h.objs.size) :: acc).lookup x = some a → ((y, h.objs.size) :: acc).lookup z = some a → x = z := fun x z a e1 e2 => by
        rw [List.lookup_cons] at e1 e2
        cases q : x == y with
        | true =>
          rw [q] at e1; cases e1
          cases q2 : z == y with
          | true => rw [beq_iff_eq.mp q, beq_iff_eq.mp q2]
          | false => rw [q2] at e2; exact absurd (hl z _ e2) (Nat.lt_irrefl _)
        | false =>
          rw [q] at e1
          cases q2 : z == y with
          | true => rw [q2] at e2; cases e2; exact absurd (hl x _ e1) (Nat.lt_irrefl _)
          | false => rw [q2] at e2; exact hi x z a e1 e2
      obtain ⟨c1, c2, c3, c4⟩ := cells_of r (h.push { cls := .type "cell", data := .cell none }) ((y, h.objs.size) :: acc) hl' hi'
      rw [sz] at c1 c2 c3 c4
      have here : (pushCells (h.push { cls := .type "cell", data := .cell none }) r).IsCell h.objs.size none := ⟨_, pushCells_keeps r _ _ _ (Heap.get?_push_size _ rfl), rfl⟩
      refine ⟨fun x a e => ?_, c2, fun x hx => ?_, fun x hx => ?_⟩
      · rcases c1 x a e with q | ⟨q1, q2⟩
        · rw [List.lookup_cons] at q
          cases q3 : x == y with
          | true => rw [q3] at q; cases q; exact .inr ⟨Nat.le_refl _, here⟩
          | false => rw [q3] at q; exact .inl q
        · exact .inr ⟨by omega, q2⟩
      · by_cases q : (x, NameKind.cell) ∈ r
        · obtain ⟨a, h1, h2⟩ := c3 x q
          exact ⟨a, by omega, h2⟩
        · rcases List.mem_cons.mp hx with e | hx
          · have : x = y := (Prod.mk.inj e).1
            subst this
            exact ⟨h.objs.size, Nat.le_refl _, by rw [c4 x q, List.lookup_cons]; simp⟩
          · exact absurd hx q
      · rw [c4 x fun q => hx (.tail _ q), List.lookup_cons]
        have : (x == y) = false := by
          cases q : x == y with
          | false => rfl
          | true => exact absurd (by rw [beq_iff_eq.mp q]; exact List.Mem.head _) hx
        rw [this]
    · rw [if_neg hk, if_neg hk]
      obtain ⟨c1, c2, c3, c4⟩ := cells_of r h acc hl hi
      refine ⟨c1, c2, fun x hx => ?_, fun x hx => c4 x fun q => hx (.tail _ q)⟩
      rcases List.mem_cons.mp hx with e | hx
      · rw [← (Prod.mk.inj e).2] at hk; exact absurd rfl hk
      · exact c3 x hx

/-- the comprehension's names, as its own frame sees them -/
def relab (scope sc : Scope) : Scope :=
  { scope with names := scope.names.map fun (n, k) => if (k == .free && sc.kind == .function && sc.names.lookup n == some .cell) then (n, .cell) else (n, k) }
theorem relab_eq {scope : Scope} {env : Env} {sc : Scope} (h : env.scope = sc) : relabel scope env = relab scope sc := by subst h; rfl

inductive CompSub (scope : Scope) (σ : Sg) : Sg → Prop
  | nil : CompSub scope σ []
  | cons {x : Str} {d : D} {r : Sg} : σ.lookup x = some d → (x, NameKind.free) ∈ scope.names → CompSub scope σ r → CompSub scope σ ((x, d) :: r)
theorem CompSub.of {scope : Scope} {σ : Sg} : ∀ {τ : Sg}, CompSub scope σ τ → ∀ x d, τ.lookup x = some d → σ.lookup x = some d ∧ (x, NameKind.free) ∈ scope.names
  | _, .nil, x, d, e => by cases e
  | _, .cons h1 h2 r, x, d, e => by
    rw [List.lookup_cons] at e
    rename_i y d' _
    cases q : x == y with
    | true => rw [q] at e; cases e; rw [beq_iff_eq.mp q]; exact ⟨h1, h2⟩
    | false => rw [q] at e; exact r.of x d e
-- part L10
def relK (sc : Scope) (n : Str) (k : NameKind) : NameKind := if (k == .free && sc.kind == .function && sc.names.lookup n == some .cell) then .cell else k
theorem relab_names (scope sc : Scope) : (relab scope sc).names = scope.names.map fun x => (x.1, relK sc x.1 x.2) := by
  unfold relab relK
  apply List.map_congr_left
  intro x _
  obtain ⟨n, k⟩ := x
  dsimp only
  split <;> rfl
theorem lookup_rel (sc : Scope) (x : Str) : ∀ (names : List (Str × NameKind)), (names.map fun x => (x.1, relK sc x.1 x.2)).lookup x = (names.lookup x).map (relK sc x)
  | [] => rfl
  | (y, k) :: r => by
    rw [List.map_cons, List.lookup_cons, List.lookup_cons]
    cases q : x == y with
    | true => rw [beq_iff_eq.mp q]; rfl
    | false => exact lookup_rel sc x r

structure CompNames (scope sc : Scope) : Prop where
  kind : scope.kind = .function
  free : ∀ x, (x, NameKind.free) ∈ scope.names → sc.names.lookup x = some .cell
  nd : ∀ x k, (x, k) ∈ scope.names → scope.names.lookup x = some k

theorem CompNames.mk' {scope sc : Scope} (h1 : scope.kind = .function := by rfl) (h2 : (scope.names.all fun x => x.2 != .free || sc.names.lookup x.1 == some .cell) = true := by decide +kernel)
    (h3 : (scope.names.all fun x => scope.names.lookup x.1 == some x.2) = true := by decide +kernel) : CompNames scope sc :=
  ⟨h1, fun x hx => by
    have := List.all_eq_true.mp h2 _ hx
    simpa using this, fun x k hx => by
    have := List.all_eq_true.mp h3 _ hx
    simpa using this⟩

section
variable {g : Gl} {sc : Scope} {n : Nat} {σ σ₁ σ₂ σ' τ σc : Sg} {μ μ₁ μ₂ μ₃ μ' : Mu} {c : Cx}

def compEnv' (scope : Scope) (C : Addr) (cls : List (Str × Addr)) (env : Env) : Env :=
  { scope := relabel scope env, locals := C, globals := env.globals, cells := cls, qual := env.qual, func := none, code := env.code, frame := env.frame, builtins := env.builtins }

theorem comp_frame {scope : Scope} (N : CompNames scope sc) (hσ : CompSub scope σ σc) (hsc : c.ev.scope = sc) {s : Shared} {I : Imm} (F : FrOk g c σ s.heap ⟨I, μ⟩) (M : MemOk s.heap ⟨I, μ⟩) {cl : List (Str × Addr)}
    (c1 : ∀ x a, cl.lookup x = some a → c.ev.cells.lookup x = some a) (c2 : ∀ x, (x, NameKind.free) ∈ scope.names → ∃ a, cl.lookup x = some a) {H : Heap} (hH : ∀ b o, s.heap.get? b = some o → H.get? b = some o) (hsz : s.heap.objs.size ≤ H.objs.size) :
    FrOk g { c with ev := compEnv' scope H.objs.size (cellsFrom (H.objs.size + 1) scope.names cl) c.ev } σc (pushCells (H.push { cls := .type "dict", data := .dict #[] }) scope.names) ⟨I, μ⟩ ∧
    (∀ ns : List Str, (∀ x ∈ ns, scope.names.lookup x = some .local ∨ scope.names.lookup x = some .cell) → ∀ a, Cx.wr { c with ev := compEnv' scope H.objs.size (cellsFrom (H.objs.size + 1) scope.names cl) c.ev } ns a → s.heap.get? a = none) := by
  have keep : ∀ b o, s.heap.get? b = some o → (pushCells (H.push { cls := .type "dict", data := .dict #[] }) scope.names).get? b = some o := fun b o e => pushCells_keeps _ _ _ _ (Heap.get?_push_of_some _ (hH b o e))
  have fresh : ∀ a, H.objs.size ≤ a → s.heap.get? a = none := fun a ha => Heap.get?_none_of_le (Nat.le_trans hsz ha)
  have clt : ∀ x a, cl.lookup x = some a → a < H.objs.size := fun x a e => by
    obtain ⟨⟨v, o, ho, _⟩, _⟩ := F.cell x a (c1 x a e)
    exact Nat.lt_of_lt_of_le (Heap.lt_size ho) hsz
  have sz : (H.push { cls := .type "dict", data := .dict #[] }).objs.size = H.objs.size + 1 := Heap.size_push ..
  obtain ⟨d1, d2, d3, d4⟩ := cells_of scope.names (H.push { cls := .type "dict", data := .dict #[] }) cl (fun x a e => by rw [sz]; exact Nat.lt_succ_of_lt (clt x a e))
    (fun x y a e1 e2 => F.cellInj x y a (c1 x a e1) (c1 y a e2))
  rw [sz] at d1 d2 d3 d4
  have kinds : ∀ x, (compEnv' scope H.objs.size (cellsFrom (H.objs.size + 1) scope.names cl) c.ev).kindOf x = (scope.names.lookup x).map (relK sc x) := fun x => by
    show (relabel scope c.ev).names.lookup x = _
    rw [relab_eq hsc, relab_names, lookup_rel]
  have cellOf : ∀ x a, (cellsFrom (H.objs.size + 1) scope.names cl).lookup x = some a → (c.ev.cells.lookup x = some a ∧ a < H.objs.size) ∨ H.objs.size + 1 ≤ a := fun x a e => by
    rcases d1 x a e with q | q
    · exact .inl ⟨c1 x a q, clt x a q⟩
    · exact .inr q.1
  refine ⟨?_, ?_⟩
  · refine { below := F.below, fr := ?_, kin := F.kin, top := F.top, frames := F.frames, fframe := F.fframe, fkind := F.fkind, handled := F.handled, eg := F.eg, eb := F.eb, ek := N.kind, efr := F.efr, loc := ?_, locAbove := ?_, cell := fun x a e => ?_, cellAt := fun x e => ?_, cellInj := d2, ownI := fun a ha => ?_, mu0 := F.mu0, vars := fun x d e => ?_, half := F.half }
    · obtain ⟨m, fr⟩ := F.fr
      exact ⟨m, fr.ns.keeps keep, fun b o e => keep b o (fr.keep b o e), fr.above⟩
    · exact ⟨_, (Heap.Ns.new H (.type "dict")).keeps fun b o e => pushCells_keeps _ _ _ _ e⟩
    · exact (F.new0 (fresh _ (Nat.le_refl _))).1
    · rcases d1 x a e with q | ⟨q1, q2⟩
      · obtain ⟨⟨v, o, ho, hd⟩, r1, r2, r3⟩ := F.cell x a (c1 x a q)
        exact ⟨⟨v, o, keep a o ho, hd⟩, r1, Nat.ne_of_lt (clt x a q), r3⟩
      · have fa := fresh a (by omega)
        refine ⟨⟨_, q2⟩, fun z => F.lLt (by rw [← z]; exact fa), fun z => ?_, (F.new0 fa).1⟩
        have e1 : a = H.objs.size := z
        have e2 : H.objs.size + 1 ≤ a := q1
        rw [e1] at e2
        exact Nat.lt_irrefl _ e2
    · rw [kinds] at e
      cases hl : scope.names.lookup x with
      | none => rw [hl] at e; cases e
      | some k =>
        rw [hl] at e
        simp only [Option.map_some, Option.some.injEq] at e
        have hmem := mem_of_lookup hl
        by_cases hc : (x, NameKind.cell) ∈ scope.names
        · obtain ⟨a, _, h⟩ := d3 x hc
          exact ⟨a, h⟩
        · have hk : k = .free := by
            unfold relK at e
            split at e
            · rename_i hh
              simp only [Bool.and_eq_true, beq_iff_eq] at hh
              exact hh.1.1
            · subst e; exact absurd hmem hc
          subst hk
          obtain ⟨a, ha⟩ := c2 x hmem
          exact ⟨a, by show (cellsFrom _ _ _).lookup x = _; rw [d4 x hc]; exact ha⟩
    · rcases ha with h | h | ⟨x, h⟩
      · subst h; exact F.ownI _ (.inl rfl)
      · subst h; exact M.fresh (fresh _ (Nat.le_refl _))
      · rcases cellOf x a h with q | q
        · exact F.ownI a (.inr (.inr ⟨x, q.1⟩))
        · exact M.fresh (fresh a (by omega))
    · obtain ⟨e1, e2⟩ := hσ.of x d e
      obtain ⟨v, hh, r⟩ := F.vars x d e1
      refine ⟨v, ?_, r⟩
      have hk := N.free x e2
      rcases hh with ⟨hk', _⟩ | ⟨_, a, ha, o, ho, hd⟩
      · unfold Env.kindOf at hk'; rw [hsc, hk] at hk'; cases hk'
      · refine .inr ⟨?_, a, ?_, o, keep a o ho, hd⟩
        · rw [kinds, N.nd x _ e2]
          show some (relK sc x .free) = _
          have hkind : sc.kind = .function := by rw [← hsc]; exact F.ek
          simp [relK, hkind, hk]
        · have hnc : (x, NameKind.cell) ∉ scope.names := fun q => by
            have := N.nd x _ q; rw [N.nd x _ e2] at this; cases this
          show (cellsFrom _ _ _).lookup x = _
          rw [d4 x hnc]
          obtain ⟨b, hb⟩ := c2 x e2
          have := c1 x b hb
          rw [ha] at this; cases this; exact hb
  · intro ns hns a ha
    rcases ha with h | ⟨x, hx, hk, hl⟩
    · subst h; exact fresh _ (Nat.le_refl _)
    · rw [kinds] at hk
      rcases hns x hx with q | q
      · rw [q] at hk
        simp [relK] at hk
      · obtain ⟨b, hb, hb'⟩ := d3 x (mem_of_lookup q)
        have hl' : (cellsFrom (H.objs.size + 1) scope.names cl).lookup x = some a := hl
        rw [hb'] at hl'; cases hl'
        exact fresh a (by omega)

/-- a new fixed object that stood there before, foreign -/
theorem TrF.fix {P : Addr → Prop} {s s' : Shared} {W : Wd} {I' : Imm} {μ' : Mu} {a : Addr} {o : Obj} (x : TrF P s W s' ⟨I', μ'⟩) (hI : I' a = none) (hm : μ' a = none) (ha : s.heap.get? a = none) (ho : s'.heap.get? a = some o) :
    TrF P s W s' ⟨I'.put a o, μ'⟩ := by
  have sub : I'.Sub (I'.put a o) := Imm.put_sub hI
  refine ⟨x.same, x.keep, x.live, fun b o' e => sub b o' (x.imm b o' e), fun b e => ?_, x.muNew, ⟨fun b o' e => ?_, fun b ds e => ?_, fun b e => ?_⟩⟩
  · by_cases q : b = a
    · subst q; exact .inr (.inl ha)
    · exact x.immNew b (by simpa [Imm.put, q] using e)
  · have e : I'.put a o b = some o' := e
    by_cases q : b = a
    · subst q; rw [Imm.put_self] at e; cases e; exact ho
    · exact x.mem.imm b o' (by simpa [Imm.put, q] using e)
  · obtain ⟨vs, p, r⟩ := x.mem.mu b ds e
    exact ⟨vs, p, r.mono sub⟩
  · have : b ≠ a := fun q => by subst q; exact e hm
    simpa [Imm.put, this] using x.mem.apart b e
end
-- part L11
section
variable {g : Gl} {sc : Scope} {n : Nat} {σ σ₁ σ₂ σ' τ σc : Sg} {μ μ₁ μ₂ μ₃ μ' : Mu} {c : Cx}

/-- how the body of a comprehension goes, from the iterator on -/
def BodyOk (g : Gl) (sc' : Scope) (n : Nat) (ns : List Str) (E0 : Expr) (σc : Sg) (μ : Mu) (ds out : List D) (μ' : Mu) : Prop :=
  ∀ (c : Cx), c.ev.scope = sc' → Room c.A n → ∀ (s0 : Shared) (W0 : Wd) (s : Shared) (I : Imm) (it Dl : Addr),
    FrOk g c σc s.heap ⟨I, μ⟩ → TrF NoP s0 W0 s ⟨I, μ⟩ → ItAt I s.heap it ds → Fgn c s.heap I μ it → Fgn c s.heap I μ Dl → it ≠ Dl → s.heap.PlainList Dl #[] →
    s0.heap.get? it = none → s0.heap.get? Dl = none → (∀ a, c.wr ns a → s0.heap.get? a = none) →
    ∀ (RR : Result → Shared → Prop), (∀ s' I' ws', (∃ σ', FrOk g c σ' s'.heap ⟨I', μ'⟩) → TrF NoP s0 W0 s' ⟨I', μ'⟩ → Fgn c s'.heap I' μ' Dl → s'.heap.PlainList Dl (List.toArray ws') → Reps I' ws' out → RR (.ok .next) s') →
    codeAny (model g.prog g.w) c.A (.compLoop E0 0 (.ref it) (.ref Dl) c.ev) RR s

theorem body1 {elt tgt iter : Expr} {ifs : List Expr} {scope : Scope} {epos : Pos} {ds out : List D} {sc' : Scope} (r : C1 g sc' n tgt ifs elt ds σc μ out σ' μ') (hsz : out.length ≤ 1000) :
    BodyOk g sc' n (tnames tgt) (.ListComp elt [⟨tgt, iter, ifs, 0⟩] scope epos) σc μ ds out μ' := by
  intro c hsc R s0 W0 s I it Dl F T0 hit fit fD hne hl f1 f2 hw RR k
  refine c1_sound (p := iter.pos) (fun it acc env => rfl) r c hsc R s0 W0 s I it Dl [] [] (fun _ => False) (fun a h => h.elim) F T0 hit fit fD hne hl .nil (by simp; omega) f1 f2 hw RR ?_
  intro s' I' ws' F' T' f' l' r' _ _
  exact k s' I' ws' ⟨_, F'⟩ T' f' l' (by simpa using r')
theorem body2 {elt t1 t2 i1 i2 : Expr} {scope : Scope} {epos : Pos} {ds out : List D} {sc' : Scope} (hs2 : ∀ env x, foldedSetIterable i2 env x = pure x) (r : C2 g sc' n t1 i2 t2 elt ds σc μ out σ' μ') (hsz : out.length ≤ 1000) :
    BodyOk g sc' n (tnames t1 ++ tnames t2) (.ListComp elt [⟨t1, i1, [], 0⟩, ⟨t2, i2, [], 0⟩] scope epos) σc μ ds out μ' := by
  intro c hsc R s0 W0 s I it Dl F T0 hit fit fD hne hl f1 f2 hw RR k
  refine c2_sound hs2 (fun it acc env => rfl) (fun it acc env => rfl) r c hsc R s0 W0 s I it Dl [] [] F T0 hit fit fD hne hl .nil (by simp; omega) f1 f2 (fun a h => hw a (Cx.wr_mono (fun x hx => List.mem_append_left _ hx) h)) (fun a h => hw a (Cx.wr_mono (fun x hx => List.mem_append_right _ hx) h)) RR ?_
  intro s' I' ws' F' T' f' l' r'
  exact k s' I' ws' ⟨_, F'⟩ T' f' l' (by simpa using r')

/-- from the first iterable's iterator to the end of the comprehension's code -/
theorem comp_block {scope : Scope} {ns : List Str} {elt : Expr} {tgt iter : Expr} {ifs : List Expr} {rest : List Comprehension} {epos : Pos} {ds out : List D} (N : CompNames scope sc) (hns : ∀ x ∈ ns, scope.names.lookup x = some .local ∨ scope.names.lookup x = some .cell)
    (hσ : CompSub scope σ σc) (hb : BodyOk g (relab scope sc) n ns (.ListComp elt (⟨tgt, iter, ifs, 0⟩ :: rest) scope epos) σc μ ds out μ')
    (hsc : c.ev.scope = sc) (R : Room c.A n) {s s₂ : Shared} {I : Imm} {cl : List (Str × Addr)} (F : FrOk g c σ s.heap ⟨I, μ⟩) (M : MemOk s.heap ⟨I, μ⟩) (h2 : ∃ h, s₂ = { s with heap := h } ∧ ∀ b o, s.heap.get? b = some o → h.get? b = some o) (hit : ItAt I s₂.heap s.heap.objs.size ds)
    (c1 : ∀ x a, cl.lookup x = some a → c.ev.cells.lookup x = some a) (c2 : ∀ x, (x, NameKind.free) ∈ scope.names → ∃ a, cl.lookup x = some a)
    {RR : Value → Addr → Result → Shared → Prop} {E : Value → Shared → Prop}
    (k : ∀ s' I' ws' Dl C, TrF NoP s ⟨I, μ⟩ s' ⟨I', μ'⟩ → I' Dl = none → μ' Dl = none → s.heap.get? Dl = none → s'.heap.PlainList Dl (List.toArray ws') → Reps I' ws' out → C ≠ Dl → s.heap.get? C = none → I' C = none → μ' C = none → (∃ m, s'.heap.Ns C m) → RR (.ref Dl) C (.ok .next) s') :
    wpAny (model g.prog g.w) c.A (newList []) (fun acc s₃ => wpAny (model g.prog g.w) c.A (newFunctionEnv scope c.ev.globals cl [] c.ev.qual none .none (some c.ev)) (fun cenv s₄ =>
      codeAny (model g.prog g.w) c.A (.compStart (.ListComp elt (⟨tgt, iter, ifs, 0⟩ :: rest) scope epos) 0 (.ref s.heap.objs.size) acc { cenv with scope := relabel scope c.ev }) (RR acc cenv.locals) s₄) E s₃) E s₂ := by
  obtain ⟨h₂, rfl, hk2⟩ := h2
  refine wpAny_newObj_type (newEnv_comp ?_) (by size_fits)
  generalize hH : (h₂.push { cls := .type "list", dict := none, data := .seq ([] : List Value).toArray } : Heap) = H
  have szH : H.objs.size = h₂.objs.size + 1 := by rw [← hH, Heap.size_push]
  have hkH : ∀ b o, h₂.get? b = some o → H.get? b = some o := fun b o e => by rw [← hH]; exact Heap.get?_push_of_some _ e
  have slt : s.heap.objs.size < h₂.objs.size := by
    have := hit.live
    cases q : h₂.get? s.heap.objs.size with
    | none => exact absurd q this
    | some o => exact Heap.lt_size q
  have hkS : ∀ b o, s.heap.get? b = some o → H.get? b = some o := fun b o e => hkH b o (hk2 b o e)
  have fresh : ∀ a, s.heap.objs.size ≤ a → s.heap.get? a = none := fun a ha => Heap.get?_none_of_le ha
  obtain ⟨Fc, hwr⟩ := comp_frame N hσ hsc F M c1 c2 hkS (by omega)
  have keep : ∀ b o, H.get? b = some o → (pushCells (H.push { cls := .type "dict", data := .dict #[] }) scope.names).get? b = some o := fun b o e => pushCells_keeps _ _ _ _ (Heap.get?_push_of_some _ e)
  have szE : ({ s with heap := h₂ } : Shared).heap.objs.size = h₂.objs.size := rfl
  rw [show ({ heap := H, gens := s.gens, drawn := s.drawn, toks := s.toks, os := s.os } : Shared).heap.objs.size = H.objs.size from rfl]
  have T0 : TrF NoP s ⟨I, μ⟩ { s with heap := pushCells (H.push { cls := .type "dict", data := .dict #[] }) scope.names } ⟨I, μ⟩ := TrF.grow M (fun b o e => keep b o (hkS b o e)) (k := s.toks)
  have hitE : ItAt I (pushCells (H.push { cls := .type "dict", data := .dict #[] }) scope.names) s.heap.objs.size ds := hit.keep (fun _ _ e => e) fun o e => keep _ o (hkH _ o e)
  have hacc : (pushCells (H.push { cls := .type "dict", data := .dict #[] }) scope.names).get? h₂.objs.size = some { cls := .type "list", dict := none, data := .seq ([] : List Value).toArray } := keep _ _ (by rw [← hH]; exact Heap.get?_push_size _ rfl)
  -- none of the frame's
  have notOwn : ∀ a, s.heap.objs.size ≤ a → a ≠ H.objs.size → a < H.objs.size → ¬ Cx.own { c with ev := compEnv' scope H.objs.size (cellsFrom (H.objs.size + 1) scope.names cl) c.ev } a := fun a ha hne hlt ho => by
    rcases ho with h | h | ⟨x, h⟩
    · exact F.lLt (by rw [← h]; exact fresh a ha)
    · exact hne h
    · have cl1 : ∀ x a, cl.lookup x = some a → a < s.heap.objs.size := fun x a e => by
        obtain ⟨⟨v, o, ho, _⟩, _⟩ := F.cell x a (c1 x a e)
        exact Heap.lt_size ho
      have sz : (H.push { cls := .type "dict", data := .dict #[] }).objs.size = H.objs.size + 1 := Heap.size_push ..
      obtain ⟨d1, _, _, _⟩ := cells_of scope.names (H.push { cls := .type "dict", data := .dict #[] }) cl (fun x a e => by rw [sz]; exact Nat.lt_of_lt_of_le (cl1 x a e) (by omega))
        (fun x y a e1 e2 => F.cellInj x y a (c1 x a e1) (c1 y a e2))
      rw [sz] at d1
      rcases d1 x a h with q | q
      · have := cl1 x a q; exact absurd ha (Nat.not_le.mpr this)
      · have := q.1; omega
  have fgn : ∀ a, s.heap.objs.size ≤ a → a ≠ H.objs.size → a < H.objs.size → (pushCells (H.push { cls := .type "dict", data := .dict #[] }) scope.names).get? a ≠ none →
      Fgn { c with ev := compEnv' scope H.objs.size (cellsFrom (H.objs.size + 1) scope.names cl) c.ev } (pushCells (H.push { cls := .type "dict", data := .dict #[] }) scope.names) I μ a := fun a h1 h2 h3 h4 =>
    ⟨(M.fresh (fresh a h1)).1, (M.fresh (fresh a h1)).2, notOwn a h1 h2 h3, (F.new0 (fresh a h1)).1, h4⟩
  have hne0 : s.heap.objs.size ≠ h₂.objs.size := Nat.ne_of_lt slt
  have hne1 : H.objs.size ≠ h₂.objs.size := by omega
  have go : codeAny (model g.prog g.w) c.A (.compLoop (.ListComp elt (⟨tgt, iter, ifs, 0⟩ :: rest) scope epos) 0 (.ref s.heap.objs.size) (.ref h₂.objs.size) (compEnv' scope H.objs.size (cellsFrom (H.objs.size + 1) scope.names cl) c.ev)) (RR (.ref h₂.objs.size) H.objs.size)
      { s with heap := pushCells (H.push { cls := .type "dict", data := .dict #[] }) scope.names } := by
    refine hb { c with ev := compEnv' scope H.objs.size (cellsFrom (H.objs.size + 1) scope.names cl) c.ev } (relab_eq hsc) R s ⟨I, μ⟩ { s with heap := pushCells (H.push { cls := .type "dict", data := .dict #[] }) scope.names } I s.heap.objs.size h₂.objs.size Fc T0 hitE
      (fgn _ (Nat.le_refl _) (by omega) (by omega) hitE.live) (fgn h₂.objs.size (Nat.le_of_lt slt) (by omega) (by omega) (by rw [hacc]; simp)) hne0 ⟨0, hacc⟩ (fresh _ (Nat.le_refl _)) (fresh h₂.objs.size (Nat.le_of_lt slt)) (hwr ns hns) _ ?_
    intro s' I' ws' F' T' f' l' r'
    obtain ⟨σ', F'⟩ := F'
    have oC := F'.ownI H.objs.size (.inr (.inl rfl))
    refine k s' I' ws' _ _ T' f'.hI f'.hm (fresh h₂.objs.size (Nat.le_of_lt slt)) l' r' hne1 (fresh H.objs.size (by omega)) oC.1 oC.2 F'.loc
  exact codeAny_compStart_list go (iter_self hitE go)

theorem EvS.compB {scope : Scope} {ns : List Str} {elt : Expr} {tgt iter : Expr} {ifs : List Expr} {rest : List Comprehension} {epos : Pos} {d : D} {ds out : List D} (hi : EvS g sc n σ μ iter d μ₁) (hd : d.items = some ds) (N : CompNames scope sc)
    (hns : ∀ x ∈ ns, scope.names.lookup x = some .local ∨ scope.names.lookup x = some .cell) (hσ : CompSub scope σ σc) (hb : BodyOk g (relab scope sc) n ns (.ListComp elt (⟨tgt, iter, ifs, 0⟩ :: rest) scope epos) σc μ₁ ds out μ')
    (hsm : ∀ a m, d = .rng a m → -1000 ≤ a ∧ a ≤ 1000 ∧ m ≤ 1000) (hs : ∀ env x, foldedSetIterable iter env x = pure x) :
    EvS g sc n σ μ (.ListComp elt (⟨tgt, iter, ifs, 0⟩ :: rest) scope epos) (.lst out) μ' := by
  intro c hsc R s I F M Q E k
  obtain ⟨cl, e1, e2, e3⟩ := closure_of scope c.ev (fun x hx => F.cellAt x (by unfold Env.kindOf; rw [hsc]; exact N.free x hx))
  rw [eval_ListComp]
  refine wpAny_comprehension_free (use := none) rfl (hs c.ev) e1 N.kind (fun x hx hl => by obtain ⟨x, k⟩ := x; have := N.nd x k hx; rw [show k = .local from hl] at this; exact this) ?_
  refine hi c hsc R s I F M _ _ fun v s₁ I₁ T₁ r₁ => iter_data T₁.mem r₁ hd hsm fun h₂ hk₂ it₂ => ?_
  refine comp_block (RR := fun acc C => compPost (model g.prog g.w) c.A E none Q acc C) N hns hσ hb hsc R (F.tr T₁) T₁.mem ⟨h₂, rfl, hk₂⟩ it₂ e2 e3 ?_
  intro s' I' ws' Dl C T' f1 f2 f3 l' r' hne fC iC mC hns'
  obtain ⟨m, hm⟩ := hns'
  obtain ⟨ml, hl⟩ := l'
  refine ⟨m, hm, fun h' hs' => ?_⟩
  have fC0 : s.heap.get? C = none := by
    cases q : s.heap.get? C with
    | none => rfl
    | some o => exact absurd fC (T₁.live C (by rw [q]; simp))
  have fD0 : s.heap.get? Dl = none := by
    cases q : s.heap.get? Dl with
    | none => rfl
    | some o => exact absurd f3 (T₁.live Dl (by rw [q]; simp))
  have T2 := (T₁.trans T').endBut (tk := s'.toks) (a := C) (h' := h') fC0 iC mC fun b o q e => (hs'.2 b q).trans e
  have T3 := T2.fix (a := Dl) f1 f2 fD0 (o := { cls := .type "list", data := .seq ws'.toArray ml }) ((hs'.2 Dl (Ne.symm hne)).trans hl)
  exact k _ _ _ T3 (.lst (Imm.put_self ..) rfl rfl (r'.mono (Imm.put_sub f1)))

theorem EvS.comp1 {scope : Scope} {elt : Expr} {tgt iter : Expr} {ifs : List Expr} {epos : Pos} {d : D} {ds out : List D} (σc : Sg) (hi : EvS g sc n σ μ iter d μ₁) (hd : d.items = some ds) (r : C1 g (relab scope sc) n tgt ifs elt ds σc μ₁ out σ' μ') (hsz : out.length ≤ 1000) (hσ : CompSub scope σ σc)
    (N : CompNames scope sc) (hns : ∀ x ∈ tnames tgt, scope.names.lookup x = some .local ∨ scope.names.lookup x = some .cell)
    (hsm : ∀ a m, d = .rng a m → -1000 ≤ a ∧ a ≤ 1000 ∧ m ≤ 1000) (hs : ∀ env x, foldedSetIterable iter env x = pure x := by intro _ _; rfl) :
    EvS g sc n σ μ (.ListComp elt [⟨tgt, iter, ifs, 0⟩] scope epos) (.lst out) μ' := EvS.compB hi hd N hns hσ (body1 r hsz) hsm hs
theorem EvS.comp2 {scope : Scope} {elt : Expr} {t1 i1 t2 i2 : Expr} {epos : Pos} {d : D} {ds out : List D} (σc : Sg) (hi : EvS g sc n σ μ i1 d μ₁) (hd : d.items = some ds) (r : C2 g (relab scope sc) n t1 i2 t2 elt ds σc μ₁ out σ' μ') (hsz : out.length ≤ 1000) (hσ : CompSub scope σ σc)
    (N : CompNames scope sc) (hns : ∀ x ∈ tnames t1 ++ tnames t2, scope.names.lookup x = some .local ∨ scope.names.lookup x = some .cell)
    (hsm : ∀ a m, d = .rng a m → -1000 ≤ a ∧ a ≤ 1000 ∧ m ≤ 1000) (hs : ∀ env x, foldedSetIterable i1 env x = pure x := by intro _ _; rfl) (hs2 : ∀ env x, foldedSetIterable i2 env x = pure x := by intro _ _; rfl) :
    EvS g sc n σ μ (.ListComp elt [⟨t1, i1, [], 0⟩, ⟨t2, i2, [], 0⟩] scope epos) (.lst out) μ' := EvS.compB hi hd N hns hσ (body2 hs2 r hsz) hsm hs
end
-- part L12
section
variable {g : Gl} {sc : Scope} {n : Nat} {σ σ₁ σ₂ σ' τ σc : Sg} {μ μ₁ μ₂ μ₃ μ' : Mu} {c : Cx}

/-- y = [..], where the name is exchanged while the comprehension's own frame stands -/
theorem Ex1.assignComp {y : Str} {py pos : Pos} {scope : Scope} {ns : List Str} {elt : Expr} {tgt iter : Expr} {ifs : List Expr} {rest : List Comprehension} {epos : Pos} {d : D} {ds out : List D} (hi : EvS g sc n σ μ iter d μ₁) (hd : d.items = some ds) (N : CompNames scope sc)
    (hns : ∀ x ∈ ns, scope.names.lookup x = some .local ∨ scope.names.lookup x = some .cell) (hσ : CompSub scope σ σc) (hb : BodyOk g (relab scope sc) n ns (.ListComp elt (⟨tgt, iter, ifs, 0⟩ :: rest) scope epos) σc μ₁ ds out μ')
    (hsm : ∀ a m, d = .rng a m → -1000 ≤ a ∧ a ≤ 1000 ∧ m ≤ 1000) (hs : ∀ env x, foldedSetIterable iter env x = pure x) (hy : sc.names.lookup y = some .local)
    (hsw : ∀ env, env.scope = sc → swapsWith (.ListComp elt (⟨tgt, iter, ifs, 0⟩ :: rest) scope epos) (some (.Name y py)) pos.line env = pure true) :
    Ex1 g sc n σ μ (.Assign [.Name y py] (.ListComp elt (⟨tgt, iter, ifs, 0⟩ :: rest) scope epos) pos) .next (σ.put y (.lst out)) μ' := by
  intro c hsc R s I F M Q E k
  obtain ⟨cl, e1, e2, e3⟩ := closure_of scope c.ev (fun x hx => F.cellAt x (by unfold Env.kindOf; rw [hsc]; exact N.free x hx))
  rw [exec_Assign_Name_used _ _ _ _ (hsw _ hsc)]
  refine wpAny_bind (wpAny_standAt (wpAny_bind ?_))
  show wpAny _ c.A (do let _ ← comprehension (.ListComp elt (⟨tgt, iter, ifs, 0⟩ :: rest) scope epos) scope c.ev _ (newList []) false (eval iter c.ev) (some (PySem.assign (.Name y py) c.ev))) _ _ s
  refine wpAny_bind (wpAny_mono (wpAny_comprehension_free (use := some (PySem.assign (.Name y py) c.ev)) (Q := fun _ s' => Q .next s') rfl (hs c.ev) e1 N.kind (fun x hx hl => by obtain ⟨x, k⟩ := x; have := N.nd x k hx; rw [show k = .local from hl] at this; exact this) ?_) (fun _ s' hq => wpAny_pure (wpAny_pure hq)) fun _ _ e => e)
  refine hi c hsc R s I F M _ _ fun v s₁ I₁ T₁ r₁ => iter_data T₁.mem r₁ hd hsm fun h₂ hk₂ it₂ => ?_
  refine comp_block (RR := fun acc C => compPost (model g.prog g.w) c.A E (some (PySem.assign (.Name y py) c.ev)) (fun _ s' => Q .next s') acc C) N hns hσ hb hsc R (F.tr T₁) T₁.mem ⟨h₂, rfl, hk₂⟩ it₂ e2 e3 ?_
  intro s' I' ws' Dl C T' f1 f2 f3 l' r' hne fC iC mC hns'
  obtain ⟨m, hm⟩ := hns'
  obtain ⟨ml, hl⟩ := l'
  have fC0 : s.heap.get? C = none := by
    cases q : s.heap.get? C with
    | none => rfl
    | some o => exact absurd fC (T₁.live C (by rw [q]; simp))
  have fD0 : s.heap.get? Dl = none := by
    cases q : s.heap.get? Dl with
    | none => rfl
    | some o => exact absurd f3 (T₁.live Dl (by rw [q]; simp))
  have T2 := (T₁.trans T').fix (a := Dl) f1 f2 fD0 hl
  have F2 := F.tr T2
  obtain ⟨C0, Cown⟩ := F.new0 fC0
  have iC2 : (I'.put Dl { cls := .type "list", data := .seq ws'.toArray ml }) C = none := by simp [Imm.put, hne, iC]
  show wpAny _ c.A (PySem.assign (.Name y py) c.ev (.ref Dl)) _ _ _
  refine wpAny_assign_Name (store_name F2 T2.mem (by unfold Env.kindOf; rw [hsc]; exact .inl hy) (.lst (Imm.put_self ..) rfl rfl (r'.mono (Imm.put_sub f1))) fun s₃ F₃ T₃ => ?_)
  have T3 := (T2.up (P := c.own)).trans (wrUp T₃)
  obtain ⟨oC, _, _, hoC, _⟩ := id hm
  have keepC : ∀ o, s'.heap.get? C = some o → s₃.heap.get? C = some o := fun o e => T₃.keep C o e mC fun q => Cown (Cx.wr_own q)
  refine ⟨m, hm.at' keepC, fun h' hs' => ?_⟩
  exact k _ _ _ (F₃.but Cown C0 fun b o q e => (hs'.2 b q).trans e) (T3.endBut (tk := s₃.toks) (a := C) (h' := h') fC0 iC2 mC fun b o q e => (hs'.2 b q).trans e) .next

theorem Ex1.assignComp1 {y : Str} {py pos : Pos} {scope : Scope} {elt : Expr} {tgt iter : Expr} {ifs : List Expr} {epos : Pos} {d : D} {ds out : List D} (σc : Sg) (hi : EvS g sc n σ μ iter d μ₁) (hd : d.items = some ds) (r : C1 g (relab scope sc) n tgt ifs elt ds σc μ₁ out σ' μ') (hsz : out.length ≤ 1000) (hσ : CompSub scope σ σc)
    (N : CompNames scope sc) (hns : ∀ x ∈ tnames tgt, scope.names.lookup x = some .local ∨ scope.names.lookup x = some .cell)
    (hsm : ∀ a m, d = .rng a m → -1000 ≤ a ∧ a ≤ 1000 ∧ m ≤ 1000) (hy : sc.names.lookup y = some .local)
    (hsw : ∀ env, env.scope = sc → swapsWith (.ListComp elt [⟨tgt, iter, ifs, 0⟩] scope epos) (some (.Name y py)) pos.line env = pure true) (hs : ∀ env x, foldedSetIterable iter env x = pure x := by intro _ _; rfl) :
    Ex1 g sc n σ μ (.Assign [.Name y py] (.ListComp elt [⟨tgt, iter, ifs, 0⟩] scope epos) pos) .next (σ.put y (.lst out)) μ' := Ex1.assignComp hi hd N hns hσ (body1 r hsz) hsm hs hy hsw
theorem Ex1.assignComp2 {y : Str} {py pos : Pos} {scope : Scope} {elt : Expr} {t1 i1 t2 i2 : Expr} {epos : Pos} {d : D} {ds out : List D} (σc : Sg) (hi : EvS g sc n σ μ i1 d μ₁) (hd : d.items = some ds) (r : C2 g (relab scope sc) n t1 i2 t2 elt ds σc μ₁ out σ' μ') (hsz : out.length ≤ 1000) (hσ : CompSub scope σ σc)
    (N : CompNames scope sc) (hns : ∀ x ∈ tnames t1 ++ tnames t2, scope.names.lookup x = some .local ∨ scope.names.lookup x = some .cell)
    (hsm : ∀ a m, d = .rng a m → -1000 ≤ a ∧ a ≤ 1000 ∧ m ≤ 1000) (hy : sc.names.lookup y = some .local)
    (hsw : ∀ env, env.scope = sc → swapsWith (.ListComp elt [⟨t1, i1, [], 0⟩, ⟨t2, i2, [], 0⟩] scope epos) (some (.Name y py)) pos.line env = pure true) (hs : ∀ env x, foldedSetIterable i1 env x = pure x := by intro _ _; rfl) (hs2 : ∀ env x, foldedSetIterable i2 env x = pure x := by intro _ _; rfl) :
    Ex1 g sc n σ μ (.Assign [.Name y py] (.ListComp elt [⟨t1, i1, [], 0⟩, ⟨t2, i2, [], 0⟩] scope epos) pos) .next (σ.put y (.lst out)) μ' := Ex1.assignComp hi hd N hns hσ (body2 hs2 r hsz) hsm hs hy hsw
end
-- part L13
theorem cells_nat : ∀ (names : List (Str × NameKind)) (n : Nat) (acc : List (Str × Addr)), (∀ x a, acc.lookup x = some a → a < n) → (∀ x y a, acc.lookup x = some a → acc.lookup y = some a → x = y) →
    (∀ x a, (cellsFrom n names acc).lookup x = some a → acc.lookup x = some a ∨ n ≤ a) ∧
    (∀ x y a, (cellsFrom n names acc).lookup x = some a → (cellsFrom n names acc).lookup y = some a → x = y) ∧
    (∀ x, ((x, NameKind.cell) ∈ names ∨ ∃ a, acc.lookup x = some a) → ∃ a, (cellsFrom n names acc).lookup x = some a)
  | [], n, acc, hl, hi => ⟨fun x a e => .inl e, hi, fun x hx => by
      rcases hx with hx | hx
      · cases hx
      · exact hx⟩
  | (y, k) :: r, n, acc, hl, hi => by
    unfold cellsFrom
    by_cases hk : (k == NameKind.cell) = true
    · rw [if_pos hk]
      have hl' : ∀ x a, ((y, n) :: acc).lookup x = some a → a < n + 1 := fun x a e => by
        rw [List.lookup_cons] at e
        cases q : x == y with
        | true => rw [q] at e; cases e; exact Nat.lt_succ_self _
        | false => rw [q] at e; exact Nat.lt_succ_of_lt (hl x a e)
      have hi' : ∀ x z a, ((y, n) :: acc).lookup x = some a → ((y, n) :: acc).lookup z = some a → x = z := fun x z a e1 e2 => by
        rw [List.lookup_cons] at e1 e2
        cases q : x == y with
        | true =>
          rw [q] at e1; cases e1
          cases q2 : z == y with
          | true => rw [beq_iff_eq.mp q, beq_iff_eq.mp q2]
          | false => rw [q2] at e2; exact absurd (hl z _ e2) (Nat.lt_irrefl _)
        | false =>
          rw [q] at e1
          cases q2 : z == y with
          | true => rw [q2] at e2; cases e2; exact absurd (hl x _ e1) (Nat.lt_irrefl _)
          | false => rw [q2] at e2; exact hi x z a e1 e2
      obtain ⟨c1, c2, c3⟩ := cells_nat r (n + 1) ((y, n) :: acc) hl' hi'
      refine ⟨fun x a e => ?_, c2, fun x hx => c3 x ?_⟩
      · rcases c1 x a e with q | q
        · rw [List.lookup_cons] at q
          cases q3 : x == y with
          | true => rw [q3] at q; cases q; exact .inr (Nat.le_refl _)
          | false => rw [q3] at q; exact .inl q
        · exact .inr (Nat.le_of_succ_le q)
      · cases q : x == y with
        | true => exact .inr ⟨n, by rw [List.lookup_cons, q]⟩
        | false =>
          rcases hx with hx | ⟨a, ha⟩
          · rcases List.mem_cons.mp hx with e | hx
            · rw [(Prod.mk.inj e).1] at q; simp at q
            · exact .inl hx
          · exact .inr ⟨a, by rw [List.lookup_cons, q]; exact ha⟩
    · rw [if_neg hk]
      obtain ⟨c1, c2, c3⟩ := cells_nat r n acc hl hi
      refine ⟨c1, c2, fun x hx => c3 x ?_⟩
      rcases hx with hx | hx
      · rcases List.mem_cons.mp hx with e | hx
        · rw [← (Prod.mk.inj e).2] at hk; exact absurd rfl hk
        · exact .inl hx
      · exact .inr hx

theorem cellsAre_lookup {cm : Str → Option Value} : ∀ {cs : List (Str × Addr)} {cells : List (Addr × Obj)}, CellsAre cm cs cells → ∀ x a, cs.lookup x = some a → ∃ o, (a, o) ∈ cells ∧ o.data = .cell (cm x)
  | _, _, .nil, x, a, e => by cases e
  | _, _, .cons (n := n) (c := c) (o := o) hd t, x, a, e => by
    rw [List.lookup_cons] at e
    cases q : x == n with
    | true => rw [q] at e; cases e; rw [beq_iff_eq.mp q]; exact ⟨o, .head _, hd⟩
    | false => rw [q] at e; obtain ⟨o', h1, h2⟩ := cellsAre_lookup t x a e; exact ⟨o', .tail _ h1, h2⟩

theorem bindL_of {kindOf : Str → Option NameKind} : ∀ (binds : List (Str × Value)) (m : Str → Option Value) (x : Str) (v : Value), (binds.map (·.1)).Nodup → kindOf x = some .local → ((x, v) ∈ binds ∨ (x ∉ binds.map (·.1) ∧ m x = some v)) → bindL kindOf binds m x = some v
  | [], m, x, v, _, _, h => by
    rcases h with h | h
    · cases h
    · exact h.2
  | (y, u) :: r, m, x, v, nd, hk, h => by
    unfold bindL
    rw [List.map_cons, List.nodup_cons] at nd
    refine bindL_of r _ x v nd.2 hk ?_
    rcases h with h | ⟨h1, h2⟩
    · rcases List.mem_cons.mp h with e | h
      · cases e
        refine .inr ⟨nd.1, ?_⟩
        rw [if_pos hk]; simp
      · exact .inl h
    · rw [List.map_cons, List.mem_cons, not_or] at h1
      refine .inr ⟨h1.2, ?_⟩
      split
      · simp [h1.1, h2]
      · exact h2
theorem bindC_of {kindOf : Str → Option NameKind} : ∀ (binds : List (Str × Value)) (m : Str → Option Value) (x : Str) (v : Value), (binds.map (·.1)).Nodup → kindOf x = some .cell → ((x, v) ∈ binds ∨ (x ∉ binds.map (·.1) ∧ m x = some v)) → bindC kindOf binds m x = some v
  | [], m, x, v, _, _, h => by
    rcases h with h | h
    · cases h
    · exact h.2
  | (y, u) :: r, m, x, v, nd, hk, h => by
    unfold bindC
    rw [List.map_cons, List.nodup_cons] at nd
    refine bindC_of r _ x v nd.2 hk ?_
    rcases h with h | ⟨h1, h2⟩
    · rcases List.mem_cons.mp h with e | h
      · cases e
        refine .inr ⟨nd.1, ?_⟩
        rw [if_neg (by rw [hk]; simp)]; simp
      · exact .inl h
    · rw [List.map_cons, List.mem_cons, not_or] at h1
      refine .inr ⟨h1.2, ?_⟩
      split
      · exact h2
      · simp [h1.1, h2]

theorem zip_reps {I : Imm} : ∀ {xs : List Str} {vs : List Value} {ds : List D}, Reps I vs ds → ∀ x d, (xs.zip ds).lookup x = some d → ∃ v, (x, v) ∈ xs.zip vs ∧ Rep I v d
  | [], _, _, _, x, d, e => by cases e
  | _ :: _, _, _, .nil, x, d, e => by simp at e
  | y :: ys, _, _, .cons (v := v) h t, x, d, e => by
    rw [List.zip_cons_cons, List.lookup_cons] at e
    cases q : x == y with
    | true => rw [q] at e; cases e; rw [beq_iff_eq.mp q]; exact ⟨v, by rw [List.zip_cons_cons]; exact .head _, h⟩
    | false => rw [q] at e; obtain ⟨u, h1, h2⟩ := zip_reps t x d e; exact ⟨u, by rw [List.zip_cons_cons]; exact .tail _ h1, h2⟩

theorem zip_fst {α : Type} : ∀ (xs : List Str) (vs : List α), xs.length = vs.length → (xs.zip vs).map (·.1) = xs
  | [], [], _ => rfl
  | x :: xs, v :: vs, h => by rw [List.zip_cons_cons, List.map_cons, zip_fst xs vs (by simpa using h)]

/-- the lists at hand: what a callee may change -/
def newsOf (h : Heap) (μ : Mu) : List (Addr × Obj) := (List.range h.objs.size).filterMap fun a => if (μ a).isSome then (h.get? a).map fun o => (a, o) else none
theorem of_newsOf {h : Heap} {μ : Mu} {p : Addr × Obj} (hp : p ∈ newsOf h μ) : μ p.1 ≠ none ∧ h.get? p.1 = some p.2 := by
  unfold newsOf at hp
  obtain ⟨a, _, e⟩ := List.mem_filterMap.mp hp
  split at e
  · rename_i hm
    obtain ⟨o, ho, rfl⟩ := Option.map_eq_some_iff.mp e
    exact ⟨(by intro q; rw [show μ a = none from q] at hm; cases hm), ho⟩
  · cases e
theorem mem_newsOf {h : Heap} {μ : Mu} {a : Addr} {o : Obj} (hm : μ a ≠ none) (ho : h.get? a = some o) : (a, o) ∈ newsOf h μ := by
  unfold newsOf
  refine List.mem_filterMap.mpr ⟨a, List.mem_range.mpr (Heap.lt_size ho), ?_⟩
  have : (μ a).isSome = true := by
    cases q : μ a with
    | none => exact absurd q hm
    | some x => rfl
  rw [if_pos this, ho]; rfl

/-- a call of the value f; what is known of what it gives -/
def CallP (g : Gl) (n : Nat) (μ : Mu) (f : Value) (ds : List D) (P : Value → Imm → Mu → Prop) : Prop :=
  ∀ (c : Cx), Room c.A n → ∀ (σ : Sg) (s : Shared) (I : Imm), FrOk g c σ s.heap ⟨I, μ⟩ → MemOk s.heap ⟨I, μ⟩ → ∀ (vs : List Value), Reps I vs ds → ∀ (Q E : Value → Shared → Prop),
    (∀ v s' I' μ', TrF NoP s ⟨I, μ⟩ s' ⟨I', μ'⟩ → P v I' μ' → Q v s') → wpAny (model g.prog g.w) c.A (call f vs) Q E s
/-- a body that gives back a value -/
def ExP (g : Gl) (sc : Scope) (n : Nat) (σ : Sg) (μ : Mu) (ss : List Stmt) (P : Value → Imm → Mu → Prop) : Prop :=
  ∀ (c : Cx), c.ev.scope = sc → Room c.A n → ∀ (s : Shared) (I : Imm), FrOk g c σ s.heap ⟨I, μ⟩ → MemOk s.heap ⟨I, μ⟩ → ∀ (Q : Flow → Shared → Prop) (E : Value → Shared → Prop),
    (∀ v s' I' μ', TrF c.own s ⟨I, μ⟩ s' ⟨I', μ'⟩ → P v I' μ' → Q (.ret v) s') → wpAny (model g.prog g.w) c.A (execs ss c.ev) Q E s
section
variable {g : Gl} {n : Nat} {μ μ' : Mu}

theorem CallP.def_ {f : Addr} {oc : Value} {od : Option Addr} {osl : Array (Option Value)} {name qual : Str} {prms : Arguments} {body : List Stmt} {scope : Scope} {dV kV doc pm cdv ct : Value} {an : Option Addr} {xs : List Str} {ex : List Value} {ds dex : List D} {P : Value → Imm → Mu → Prop}
    (hlook : g.K.lookup f = some ⟨oc, od, .func (fnX name qual prms body scope [] dV kV doc pm an cdv ct), osl⟩) (hcode : codeIn g.K cdv qual = true)
    (hbind : ∀ (s : Shared) (vs : List Value), g.K.In s.heap → vs.length = ds.length → BindsTo s (fnX name qual prms body scope [] dV kV doc pm an cdv ct) ⟨vs, []⟩ (xs.zip (vs ++ ex)))
    (hex : ∀ I, Reps I ex dex) (hlen : xs.length = ds.length + dex.length) (hnd : xs.Nodup)
    (hkinds : ∀ x ∈ xs, scope.names.lookup x = some .local ∨ scope.names.lookup x = some .cell)
    (hb : ExP g scope n (xs.zip (ds ++ dex)) μ body P)
    (hco : scope.isCoroutine = false := by rfl) (hgen : scope.isGenerator = false := by rfl) (hk : scope.kind = .function := by rfl) : CallP g (n + 1) μ (.ref f) ds P := by
  intro c R σ s I F M vs r Q E k
  obtain ⟨m, fr⟩ := F.fr
  have N : News c.h₀ c.L s.heap (newsOf s.heap μ) := fun p hp => by
    obtain ⟨h1, h2⟩ := of_newsOf hp
    exact ⟨h2, fun q => h1 (by rw [q]; exact (F.ownI c.L (.inl rfl)).2), F.mu0 _ h1⟩
  have hvl : vs.length = ds.length := r.length
  have hexl : ex.length = dex.length := (hex I).length
  have rall : Reps I (vs ++ ex) (ds ++ dex) := r.append (hex I)
  have hxl : xs.length = (vs ++ ex).length := by rw [List.length_append]; omega
  obtain ⟨FG, BG, stG, _⟩ := groundX (R := fun _ _ => True) F.below fr N F.frames F.fframe F.fkind
  have hkind : ∀ n0, ∀ x ∈ xs.zip (vs ++ ex), scope.names.lookup x.1 = some .local ∨ (scope.names.lookup x.1 = some .cell ∧ ((cellsFrom n0 scope.names []).lookup x.1).isSome = true) := fun n0 x hx => by
    have hx1 : x.1 ∈ xs := by rw [← zip_fst xs (vs ++ ex) hxl]; exact List.mem_map_of_mem hx
    rcases hkinds x.1 hx1 with q | q
    · exact .inl q
    · refine .inr ⟨q, ?_⟩
      obtain ⟨_, _, c3⟩ := cells_nat scope.names n0 [] (fun x a e => by cases e) (fun x y a e => by cases e)
      obtain ⟨a, ha⟩ := c3 x.1 (.inl (mem_of_lookup q))
      rw [ha]; rfl
  refine wpAny_call (codeAny_call_function (by have := R.depth; omega) (F.kin.keeps fr.keep _ _ hlook) rfl hco hgen rfl (codeRec_of (F.kin.keeps fr.keep) hcode) (hbind s vs (F.kin.keeps fr.keep) hvl _ _ _ _ ?_))
  refine wpAny_newFunctionEnv_cells hk (hkind _) fun env' he s' x => ?_
  subst he
  refine ⟨(F.top.nolimit.keeps fr.keep).keeps x.toInCall.keep, codeAny_func ?_⟩
  obtain ⟨h₁, tk, rfl, _⟩ := x.done
  have keep : ∀ b o, s.heap.get? b = some o → h₁.get? b = some o := x.toInCall.keep
  have fresh : ∀ a, s.heap.objs.size ≤ a → s.heap.get? a = none := fun a ha => Heap.get?_none_of_le ha
  have hidden : ∀ b o, (hideAll s.heap ((newsOf s.heap μ).map (·.1))).get? b = some o → s.heap.get? b = some o := fun b o e => of_hideAll _ e
  obtain ⟨q1, q2, q3⟩ := cells_nat scope.names (s.heap.objs.size + 1) [] (fun x a e => by cases e) (fun x y a e => by cases e)
  have q1' : ∀ x a, (cellsFrom (s.heap.objs.size + 1) scope.names []).lookup x = some a → s.heap.objs.size + 1 ≤ a := fun x a e => by
    rcases q1 x a e with z | z
    · cases z
    · exact z
  have hidnone : ∀ a, s.heap.get? a = none → (hideAll s.heap ((newsOf s.heap μ).map (·.1))).get? a = none := fun a e => by
    cases z : (hideAll s.heap ((newsOf s.heap μ).map (·.1))).get? a with
    | none => rfl
    | some o => rw [hidden a o z] at e; cases e
  let env' : Env := newEnv scope s.heap.objs.size mainGlobals (cellsFrom (s.heap.objs.size + 1) scope.names []) (qual ++ ".<locals>.") (some f) cdv none builtinsNs
  let c' : Cx := { A := c.A.deeper env', A₀ := c.A, base := c.base, outer := c.fenv :: c.outer, fenv := env', h₀ := hideAll s.heap ((newsOf s.heap μ).map (·.1)), L := s.heap.objs.size, ev := env' }
  have T1 : TrF NoP s ⟨I, μ⟩ { s with heap := h₁, toks := tk } ⟨I, μ⟩ := TrF.grow M keep
  have F' : FrOk g c' (xs.zip (ds ++ dex)) h₁ ⟨I, μ⟩ := by
    refine { below := BG, fr := ⟨_, x.toInCall.ns, fun b o e => keep b o (hidden b o e), Nat.le_of_eq (hideAll_size _ _)⟩, kin := F.kin.keeps stG, top := F.top.keeps stG, frames := ?_, fframe := rfl, fkind := hk, handled := F.handled, eg := rfl, eb := rfl, ek := hk, efr := rfl, loc := ⟨_, x.toInCall.ns⟩, locAbove := ?_, cell := fun y a e => ?_, cellAt := fun y e => q3 y (.inl (mem_of_lookup e)), cellInj := q2, ownI := fun a ha => ?_, mu0 := fun a ha => ?_, vars := fun y dd e => ?_, half := F.half }
    · show (c.A.deeper env').frames = _
      unfold Around.deeper
      rw [F.frames]; rfl
    · exact hidnone _ (fresh _ (Nat.le_refl _))
    · have ge := q1' y a e
      exact ⟨⟨_, x.cell y a e⟩, (fun z => by have z : a = s.heap.objs.size := z; rw [z] at ge; exact Nat.lt_irrefl _ ge), (fun z => by have z : a = s.heap.objs.size := z; rw [z] at ge; exact Nat.lt_irrefl _ ge), hidnone _ (fresh a (Nat.le_of_succ_le ge))⟩
    · have : s.heap.get? a = none := by
        rcases ha with z | z | ⟨y, z⟩
        · have z : a = s.heap.objs.size := z
          rw [z]; exact fresh _ (Nat.le_refl _)
        · have z : a = s.heap.objs.size := z
          rw [z]; exact fresh _ (Nat.le_refl _)
        · exact fresh a (Nat.le_of_succ_le (q1' y a z))
      exact M.fresh this
    · obtain ⟨ds0, hds0⟩ : ∃ ds0, μ a = some ds0 := by
        cases z : μ a with
        | none => exact absurd z ha
        | some w => exact ⟨w, rfl⟩
      obtain ⟨ws, ⟨m0, h0⟩, _⟩ := M.mu a ds0 hds0
      exact hideAll_none _ (List.mem_map.mpr ⟨_, mem_newsOf ha h0, rfl⟩)
    · obtain ⟨v, hv, rv⟩ := zip_reps rall y dd e
      have nd' : ((xs.zip (vs ++ ex)).map (·.1)).Nodup := by rw [zip_fst xs (vs ++ ex) hxl]; exact hnd
      refine ⟨v, ?_, rv⟩
      have hy : y ∈ xs := by rw [← zip_fst xs (vs ++ ex) hxl]; exact List.mem_map.mpr ⟨_, hv, rfl⟩
      rcases hkinds y hy with z | z
      · exact .inl ⟨z, _, x.toInCall.ns, bindL_of _ _ _ _ nd' z (.inl hv)⟩
      · obtain ⟨a, ha⟩ := q3 y (.inl (mem_of_lookup z))
        refine .inr ⟨z, a, ha, ?_⟩
        have := x.cell y a ha
        rwa [bindC_of _ _ _ _ nd' z (.inl hv)] at this
  have R' : Room c'.A n := ⟨by have := R.depth; show c.A.depth + 1 + n < _; omega, by have := R.units; show c.A.units + 3 + 3 * n + 200 < _; omega⟩
  refine hb c' rfl R' { s with heap := h₁, toks := tk } I F' T1.mem _ _ fun v s₂ I₂ μ₂ T₂ rv => ?_
  refine k v s₂ I₂ μ₂ (T1.past (fun a ha => ?_) T₂) rv
  rcases ha with z | z | ⟨y, z⟩
  · have z : a = s.heap.objs.size := z
    rw [z]; exact fresh _ (Nat.le_refl _)
  · have z : a = s.heap.objs.size := z
    rw [z]; exact fresh _ (Nat.le_refl _)
  · exact fresh a (Nat.le_of_succ_le (q1' y a z))
theorem CallS.def_ {f : Addr} {oc : Value} {od : Option Addr} {osl : Array (Option Value)} {name qual : Str} {prms : Arguments} {body : List Stmt} {scope : Scope} {dV kV doc pm cdv ct : Value} {an : Option Addr} {xs : List Str} {ex : List Value} {ds dex : List D} {d : D} {σ' : Sg}
    (hlook : g.K.lookup f = some ⟨oc, od, .func (fnX name qual prms body scope [] dV kV doc pm an cdv ct), osl⟩) (hcode : codeIn g.K cdv qual = true)
    (hbind : ∀ (s : Shared) (vs : List Value), g.K.In s.heap → vs.length = ds.length → BindsTo s (fnX name qual prms body scope [] dV kV doc pm an cdv ct) ⟨vs, []⟩ (xs.zip (vs ++ ex)))
    (hex : ∀ I, Reps I ex dex) (hlen : xs.length = ds.length + dex.length) (hnd : xs.Nodup)
    (hkinds : ∀ x ∈ xs, scope.names.lookup x = some .local ∨ scope.names.lookup x = some .cell)
    (hb : ExS g scope n (xs.zip (ds ++ dex)) μ body (.ret d) σ' μ')
    (hco : scope.isCoroutine = false := by rfl) (hgen : scope.isGenerator = false := by rfl) (hk : scope.kind = .function := by rfl) : CallS g (n + 1) μ (.ref f) ds d μ' := by
  have key := CallP.def_ (P := fun v I' μ'' => μ'' = μ' ∧ Rep I' v d) hlook hcode hbind hex hlen hnd hkinds (fun c hsc R s I F M Q E k => hb c hsc R s I F M Q E fun f s' I' F' T' r' => by
    cases r' with
    | ret rv => exact k _ s' I' μ' T' ⟨rfl, rv⟩) hco hgen hk
  intro c R σ s I F M vs r Q E k
  refine key c R σ s I F M vs r Q E fun v s' I' μ'' T' h => ?_
  obtain ⟨rfl, rv⟩ := h
  exact k v s' I' T' rv
end
-- part L14
section
variable {g : Gl} {sc : Scope} {n : Nat} {σ σ₁ σ₂ σ' τ σc : Sg} {μ μ₁ μ₂ μ₃ μ' : Mu} {c : Cx}

theorem cmp_in {k : Int} {ns : List Int} : CmpS g n μ .In (.int k) (.lst (ns.map .int)) (ns.any (· == k)) := fun A va vb s I Q E _ _ ha hb M kk => by
  cases ha
  cases hb with
  | lst hI hc hd hr => exact in_list_ints ⟨_, M.imm _ _ hI, hc, _, hd⟩ (Reps.ints hr) (kk s.toks)
theorem cmp_notin {k : Int} {ns : List Int} : CmpS g n μ .NotIn (.int k) (.lst (ns.map .int)) (!(ns.any (· == k))) := fun A va vb s I Q E _ _ ha hb M kk => by
  cases ha
  cases hb with
  | lst hI hc hd hr => exact notin_list_ints ⟨_, M.imm _ _ hI, hc, _, hd⟩ (Reps.ints hr) (kk s.toks)

theorem cmp_eqNil {ds : List D} : CmpS g n μ .Eq (.lst ds) (.lst []) ds.isEmpty := fun A va vb s I Q E _ R ha hb M kk => by
  have hu : A.units < cLine := by have := R.units; omega
  cases ha with
  | lst hI hc hd hr =>
  cases hb with
  | lst hI2 hc2 hd2 hr2 =>
  cases hr2
  cases hr with
  | nil => exact SeqAt.eq_listAt (e := fun _ => true) ⟨_, M.imm _ _ hI, hc, _, hd⟩ ⟨_, M.imm _ _ hI2, hc2, _, hd2⟩ rfl hu (fun j h1 h2 => absurd h1 (Nat.not_lt_zero _)) (kk s.toks)
  | cons h t => exact SeqAt.eq_list_lengthsAt ⟨_, M.imm _ _ hI, hc, _, hd⟩ ⟨_, M.imm _ _ hI2, hc2, _, hd2⟩ (by simp) hu (kk s.toks)
theorem cmp_neNil : CmpS g n μ .NotEq (.lst []) (.lst []) false := fun A va vb s I Q E _ R ha hb M kk => by
  have hu : A.units < cLine := by have := R.units; omega
  cases ha with
  | lst hI hc hd hr =>
  cases hb with
  | lst hI2 hc2 hd2 hr2 =>
  cases hr2
  cases hr
  exact SeqAt.RcNeAt.lists (e := fun _ => true) ⟨_, M.imm _ _ hI, hc, _, hd⟩ ⟨_, M.imm _ _ hI2, hc2, _, hd2⟩ rfl hu (fun j h1 h2 => absurd h1 (Nat.not_lt_zero _)) g.prog g.w E Q (kk s.toks)

/-- ints and tuples, so deep -/
def D.plain : Nat → D → Bool
  | _, .int _ => true
  | k + 1, .tup l => l.all (D.plain k)
  | _, _ => false

theorem eqAt_same : ∀ (k : Nat) (d : D), d.plain k = true → ∀ (A : Around) (s : Shared) (I : Imm) (va vb : Value), A.units + k + 1 < cLine → (∀ a o, I a = some o → s.heap.get? a = some o) → Rep I va d → Rep I vb d → SeqAt.EqAt A s va vb true := by
  intro k
  induction k with
  | zero =>
    intro d hd A s I va vb hu hm ra rb
    cases d with
    | int i =>
      cases ra with
      | int _ t =>
      cases rb with
      | int _ u =>
      have := MeetsSeq.EqGives.int i i t u
      simp only [beq_self_eq_true] at this
      exact this.at A s
    | _ => cases hd
  | succ k ih =>
    intro d hd A s I va vb hu hm ra rb
    cases d with
    | int i =>
      cases ra with
      | int _ t =>
      cases rb with
      | int _ u =>
      have := MeetsSeq.EqGives.int i i t u
      simp only [beq_self_eq_true] at this
      exact this.at A s
    | tup l =>
      cases ra with
      | @tup a n1 vs _ h1 r1 =>
      cases rb with
      | @tup b n2 ws _ h2 r2 =>
      by_cases hab : a = b
      · subst hab; exact SeqAt.EqAt.same _
      · refine SeqAt.EqAt.of_refs hab ?_
        have key := SeqAt.RcAt.tuples (A := A) (s := s) (e := fun _ => true) (l := a) (b := b) (items := vs.toArray) (items2 := ws.toArray) ⟨_, hm _ _ h1, rfl, _, rfl⟩ ⟨_, hm _ _ h2, rfl, _, rfl⟩ (by omega) (fun j j1 j2 => ?_)
        · have e1 := r1.length
          have e2 := r2.length
          have : ((List.range (min vs.toArray.size ws.toArray.size)).all (fun _ => true) && vs.toArray.size == ws.toArray.size) = true := by
            simp [e1, e2]
          rw [this] at key
          exact key
        · have j1' : j < vs.length := by simpa using j1
          have hj : j < l.length := by rw [← r1.length]; exact j1'
          obtain ⟨v, hv, rv⟩ := r1.get j l[j] (by simp [hj])
          obtain ⟨u, hu', ru⟩ := r2.get j l[j] (by simp [hj])
          have e1 : vs.toArray[j] = v := by
            have : vs[j]? = some vs[j] := by simp [j1']
            rw [this] at hv
            simpa using Option.some.inj hv
          have e2 : ws.toArray[j] = u := by
            have j2' : j < ws.length := by simpa using j2
            have : ws[j]? = some ws[j] := by simp [j2']
            rw [this] at hu'
            simpa using Option.some.inj hu'
          rw [e1, e2]
          have hp : (l[j]).plain k = true := by
            have := List.all_eq_true.mp (show l.all (D.plain k) = true from hd) l[j] (List.getElem_mem hj)
            exact this
          exact ih l[j] hp A.in1 s I v u (by show A.units + 1 + k + 1 < cLine; omega) hm rv ru
    | _ => cases hd

theorem cmp_eqSame {l : List D} {k : Nat} (hd : (D.tup l).plain k = true) (hk : k ≤ 8) : CmpS g n μ .Eq (.tup l) (.tup l) true := fun A va vb s I Q E _ R ha hb M kk => by
  have hu : A.units + 10 < cLine := by have := R.units; omega
  cases k with
  | zero => cases hd
  | succ k =>
  cases ha with
  | @tup a n1 vs _ h1 r1 =>
  cases hb with
  | @tup b n2 ws _ h2 r2 =>
  have e1 := r1.length
  have e2 := r2.length
  refine SeqAt.eq_tupleAt (e := fun _ => true) (items := vs.toArray) (items2 := ws.toArray) ⟨_, M.imm _ _ h1, rfl, _, rfl⟩ ⟨_, M.imm _ _ h2, rfl, _, rfl⟩ (by omega) (fun j j1 j2 => ?_) ?_
  · have j1' : j < vs.length := by simpa using j1
    have hj : j < l.length := by rw [← r1.length]; exact j1'
    obtain ⟨v, hv, rv⟩ := r1.get j l[j] (by simp [hj])
    obtain ⟨u, hu', ru⟩ := r2.get j l[j] (by simp [hj])
    have e1 : vs.toArray[j] = v := by
      have : vs[j]? = some vs[j] := by simp [j1']
      rw [this] at hv
      simpa using Option.some.inj hv
    have e2 : ws.toArray[j] = u := by
      have j2' : j < ws.length := by simpa using j2
      have : ws[j]? = some ws[j] := by simp [j2']
      rw [this] at hu'
      simpa using Option.some.inj hu'
    rw [e1, e2]
    have hp : (l[j]).plain k = true := by
      have := List.all_eq_true.mp (show l.all (D.plain k) = true from hd) l[j] (List.getElem_mem hj)
      exact this
    exact eqAt_same k l[j] hp A.in1 s I v u (by show A.units + 1 + k + 1 < cLine; omega) M.imm rv ru
  · have : ((List.range (min vs.toArray.size ws.toArray.size)).all (fun _ => true) && vs.toArray.size == ws.toArray.size) = true := by
      simp [e1, e2]
    rw [this]
    exact kk s.toks

theorem EvS.pow {l r : Expr} {pos : Pos} {a b : Int} (hl : EvS g sc n σ μ l (.int a) μ₁) (hr : EvS g sc n σ μ₁ r (.int b) μ₂) (hb : 0 ≤ b) (hsz : (Builtin.Int.intBits a : Int) * b ≤ 2 ^ 27) :
    EvS g sc n σ μ (.BinOp l .Pow r pos) (.int (a ^ b.toNat)) μ₂ :=
  EvS.bin hl hr fun A va vb s I Q E _ ra rb _ k => by cases ra; cases rb; exact PyProof.Rows.pow_int hb hsz (k _ _ (.int _ _))

/-- an item by its place, all at once -/
def pick (i : Int) (ds : List D) : Option D := (seqIndex? i ds.length).bind (ds[·]?)
theorem pick_ok {i : Int} {ds : List D} {d : D} (h : pick i ds = some d) : ∃ j, seqIndex? i ds.length = some j ∧ ds[j]? = some d := by
  unfold pick at h
  cases e : seqIndex? i ds.length with
  | none => rw [e] at h; cases h
  | some j => rw [e] at h; exact ⟨j, rfl, h⟩
theorem EvS.itemT {value slice : Expr} {pos : Pos} {ds : List D} {i : Int} {d : D} (hv : EvS g sc n σ μ value (.tup ds) μ₁) (hi : EvS g sc n σ μ₁ slice (.int i) μ₂) (h : pick i ds = some d) (hb : -(2 ^ 62) < i ∧ i < 2 ^ 62)
    (hs : ∀ (a : Addr) (u : Tok), subscripted slice false (.ref a) (.int i u) = operate [.ref a, .int i u] (getItem (.ref a) (.int i u)) := by intro _ _; with_unfolding_all rfl) :
    EvS g sc n σ μ (.Subscript value slice pos) d μ₂ := by
  obtain ⟨j, h1, h2⟩ := pick_ok h
  exact EvS.item (.inl hv) hi h1 h2 hb.1 hb.2 hs
theorem EvS.itemL {value slice : Expr} {pos : Pos} {ds : List D} {i : Int} {d : D} (hv : EvS g sc n σ μ value (.lst ds) μ₁) (hi : EvS g sc n σ μ₁ slice (.int i) μ₂) (h : pick i ds = some d) (hb : -(2 ^ 62) < i ∧ i < 2 ^ 62)
    (hs : ∀ (a : Addr) (u : Tok), subscripted slice false (.ref a) (.int i u) = operate [.ref a, .int i u] (getItem (.ref a) (.int i u)) := by intro _ _; with_unfolding_all rfl) :
    EvS g sc n σ μ (.Subscript value slice pos) d μ₂ := by
  obtain ⟨j, h1, h2⟩ := pick_ok h
  exact EvS.item (.inr hv) hi h1 h2 hb.1 hb.2 hs
theorem EvS.itemR {value slice : Expr} {pos : Pos} {a : Addr} {ds : List D} {i : Int} {d : D} (hv : EvS g sc n σ μ value (.mref a) μ₁) (hi : EvS g sc n σ μ₁ slice (.int i) μ₂) (hm : μ₂ a = some ds) (h : pick i ds = some d) (hb : -(2 ^ 62) < i ∧ i < 2 ^ 62)
    (hs : ∀ (a : Addr) (u : Tok), subscripted slice false (.ref a) (.int i u) = operate [.ref a, .int i u] (getItem (.ref a) (.int i u)) := by intro _ _; with_unfolding_all rfl) :
    EvS g sc n σ μ (.Subscript value slice pos) d μ₂ := by
  obtain ⟨j, h1, h2⟩ := pick_ok h
  exact EvS.itemM hv hi hm h1 h2 hb.1 hb.2 hs

theorem Sub.nil {τ : Sg} : Sg.Sub [] τ := fun x d e => by cases e
theorem Sub.refl {τ : Sg} : Sg.Sub τ τ := fun _ _ e => e
/-- a block that gives back a value -/
theorem ExS.retW {e : Expr} {pos : Pos} {d : D} {ss : List Stmt} (h : EvS g sc n σ μ e d μ₁) : ExS g sc n σ μ (.Return (some e) pos :: ss) (.ret d) [] μ₁ := (ExS.stop (Ex1.ret h)).weak Sub.nil
theorem ExS.retM {e : Expr} {pos : Pos} {a : Addr} {ds : List D} {ss : List Stmt} (h : EvS g sc n σ μ e (.mref a) μ₁) (hm : μ₁ a = some ds) : ExS g sc n σ μ (.Return (some e) pos :: ss) (.ret (.lst ds)) [] (μ₁.del a) := (ExS.stop (Ex1.retMut h hm)).weak Sub.nil
theorem ExS.ifT {t : Expr} {b o ss : List Stmt} {pos : Pos} {d : D} (ht : TsS g sc n σ μ t true μ₁) (hb : ExS g sc n σ μ₁ b (.ret d) σ' μ₂) : ExS g sc n σ μ (.If t b o pos :: ss) (.ret d) σ' μ₂ :=
  ExS.stop (Ex1.if_ ht (fun _ => hb) fun e => by cases e)
theorem ExS.ifF {t : Expr} {b ss : List Stmt} {pos : Pos} {fl : Fl} (ht : TsS g sc n σ μ t false μ₁) (hs : ExS g sc n σ μ₁ ss fl σ' μ₂) : ExS g sc n σ μ (.If t b [] pos :: ss) fl σ' μ₂ :=
  ExS.cons (Ex1.if_ ht (fun e => by cases e) fun _ => ExS.nil) hs
theorem ExS.ifN {t : Expr} {b ss : List Stmt} {pos : Pos} {fl : Fl} (ht : TsS g sc n σ μ t true μ₁) (hb : ExS g sc n σ μ₁ b .next σ₁ μ₂) (hs : ExS g sc n σ₁ μ₂ ss fl σ' μ₃) : ExS g sc n σ μ (.If t b [] pos :: ss) fl σ' μ₃ :=
  ExS.cons (Ex1.if_ ht (fun _ => hb) fun e => by cases e) hs
end
-- part L15
/-! the rules once more, nothing left to a default: for the walk -/
section
variable {g : Gl} {sc : Scope} {n : Nat} {σ σ₁ σ₂ σ' τ σc : Sg} {μ μ₁ μ₂ μ₃ μ' : Mu}

abbrev PlainSub (slice : Expr) (i : Int) : Prop := ∀ (a : Addr) (u : Tok), subscripted slice false (.ref a) (.int i u) = operate [.ref a, .int i u] (getItem (.ref a) (.int i u))
theorem eName {x : Str} {pos : Pos} {d : D} (hx : σ.lookup x = some d) (hd : (x == ("__debug__" : Str)) = false) : EvS g sc n σ μ (.Name x pos) d μ := EvS.name hx hd
theorem eHalf {x : Str} {pos : Pos} (hk : nsIn g.K mainGlobals x = some (some (.ref g.half))) (hx : sc.names.lookup x = some .globalImplicit) (hd : (x == ("__debug__" : Str)) = false) : EvS g sc n σ μ (.Name x pos) (.tup [.int 1, .int 2]) μ := EvS.half hk hx hd
theorem eItemT {value slice : Expr} {pos : Pos} {ds : List D} {i : Int} {d : D} (hv : EvS g sc n σ μ value (.tup ds) μ₁) (hi : EvS g sc n σ μ₁ slice (.int i) μ₂) (h : pick i ds = some d) (hb : -(2 ^ 62) < i ∧ i < 2 ^ 62) (hs : PlainSub slice i) : EvS g sc n σ μ (.Subscript value slice pos) d μ₂ := EvS.itemT hv hi h hb hs
theorem eItemL {value slice : Expr} {pos : Pos} {ds : List D} {i : Int} {d : D} (hv : EvS g sc n σ μ value (.lst ds) μ₁) (hi : EvS g sc n σ μ₁ slice (.int i) μ₂) (h : pick i ds = some d) (hb : -(2 ^ 62) < i ∧ i < 2 ^ 62) (hs : PlainSub slice i) : EvS g sc n σ μ (.Subscript value slice pos) d μ₂ := EvS.itemL hv hi h hb hs
theorem eItemR {value slice : Expr} {pos : Pos} {a : Addr} {ds : List D} {i : Int} {d : D} (hv : EvS g sc n σ μ value (.mref a) μ₁) (hi : EvS g sc n σ μ₁ slice (.int i) μ₂) (hm : μ₂ a = some ds) (h : pick i ds = some d) (hb : -(2 ^ 62) < i ∧ i < 2 ^ 62) (hs : PlainSub slice i) : EvS g sc n σ μ (.Subscript value slice pos) d μ₂ := EvS.itemR hv hi hm h hb hs
theorem eCmp {l r : Expr} {op : CmpOp} {pos : Pos} {a b : D} {v : Bool} (hl : EvS g sc n σ μ l a μ₁) (hr : EvS g sc n σ μ₁ r b μ₂) (hop : CmpS g n μ₂ op a b v) (hm : behindInMarks op r = false) : EvS g sc n σ μ (.Compare l [op] [r] pos) (.bool v) μ₂ := EvS.cmp hl hr hop hm
theorem tCmp {l r : Expr} {op : CmpOp} {pos : Pos} {a b : D} {v : Bool} (hl : EvS g sc n σ μ l a μ₁) (hr : EvS g sc n σ μ₁ r b μ₂) (hop : CmpS g n μ₂ op a b v) (hm : behindInMarks op r = false) : TsS g sc n σ μ (.Compare l [op] [r] pos) v μ₂ := TsS.cmp hl hr hop hm
theorem eChain {l r₁ r₂ : Expr} {op₁ op₂ : CmpOp} {pos : Pos} {a b b' : D} {v v' : Bool} (hl : EvS g sc n σ μ l a μ) (h1 : EvS g sc n σ μ r₁ b μ) (hop : CmpS g n μ op₁ a b v) (h2 : EvS g sc n σ μ r₂ b' μ) (hop' : CmpS g n μ op₂ b b' v') (hm : lastMarks [op₁, op₂] [r₁, r₂] = false) :
    EvS g sc n σ μ (.Compare l [op₁, op₂] [r₁, r₂] pos) (.bool (v && v')) μ := EvS.chain hl h1 hop (fun _ => h2) hop' hm
theorem tChain {l r₁ r₂ : Expr} {op₁ op₂ : CmpOp} {pos : Pos} {a b b' : D} {v v' : Bool} (hl : EvS g sc n σ μ l a μ) (h1 : EvS g sc n σ μ r₁ b μ) (hop : CmpS g n μ op₁ a b v) (h2 : EvS g sc n σ μ r₂ b' μ) (hop' : CmpS g n μ op₂ b b' v') (hm : lastMarks [op₁, op₂] [r₁, r₂] = false) :
    TsS g sc n σ μ (.Compare l [op₁, op₂] [r₁, r₂] pos) (v && v') μ := TsS.chain hl h1 hop (fun _ => h2) hop' hm
theorem eCall {x : Str} {p pos : Pos} {e : Expr} {es : List Expr} {f : Value} {ds : List D} {d : D} (hf : GName g x f) (hx : sc.names.lookup x = some .globalImplicit) (ha : EvL g sc n σ μ pos (e :: es) ds μ₁) (hc : CallS g n μ₁ f ds d μ₂) (hd : (x == ("__debug__" : Str)) = false)
    (he : ∀ env, starEach (e :: es) env = (false, eval e env) :: starEach es env) (hp : ∀ env, (backTo pos (starEach es env)).any (·.1) = false) : EvS g sc n σ μ (.Call (.Name x p) (e :: es) [] pos) d μ₂ := EvS.call hf hx ha hc hd he hp
theorem lCons {pos : Pos} {e : Expr} {es : List Expr} {d : D} {ds : List D} (he : EvS g sc n σ μ e d μ₁) (hs : EvL g sc n σ μ₁ pos es ds μ₂) (hst : ∀ env, starEach (e :: es) env = (false, eval e env) :: starEach es env) : EvL g sc n σ μ pos (e :: es) (d :: ds) μ₂ := EvL.cons he hs hst
theorem eTup {es : List Expr} {k : Nat} {pos : Pos} {ds : List D} (h : EvL g sc n σ μ pos es ds μ₁) (hsz : ds.length ≤ 1000) : EvS g sc n σ μ (.Tuple es k pos) (.tup ds) μ₁ := EvS.tuple h hsz
theorem eLst {es : List Expr} {pos : Pos} {ds : List D} (h : EvL g sc n σ μ pos es ds μ₁) (hsz : ds.length ≤ 1000) : EvS g sc n σ μ (.List es pos) (.lst ds) μ₁ := EvS.list h hsz
theorem tNot {x : Expr} {pos : Pos} {b : Bool} (h : TsS g sc n σ μ x b μ₁) : TsS g sc n σ μ (.UnaryOp .Not x pos) (!b) μ₁ := TsS.not h
theorem tCall {f : Expr} {as : List Expr} {ks : List Keyword} {pos : Pos} {b : Bool} (h : EvS g sc n σ μ (.Call f as ks pos) (.bool b) μ₁) : TsS g sc n σ μ (.Call f as ks pos) b μ₁ := TsS.call h
theorem tAnd {x y : Expr} {pos : Pos} {a b : Bool} (hx : TsS g sc n σ μ x a μ₁) (hy : TsS g sc n σ μ₁ y b μ₁) : TsS g sc n σ μ (.BoolOp .And [x, y] pos) (a && b) μ₁ := TsS.boolop (AllS.and2 hx fun _ => hy)
theorem tOr {x y : Expr} {pos : Pos} {a b : Bool} (hx : TsS g sc n σ μ x a μ) (hy : TsS g sc n σ μ y b μ) : TsS g sc n σ μ (.BoolOp .Or [x, y] pos) (a || b) μ := TsS.boolop (AllS.or2 hx (fun _ => hy) fun _ => rfl)
/-- «a or b», a false: b may turn the lists -/
theorem tOrF {x y : Expr} {pos : Pos} {b : Bool} (hx : TsS g sc n σ μ x false μ₁) (hy : TsS g sc n σ μ₁ y b μ₂) : TsS g sc n σ μ (.BoolOp .Or [x, y] pos) b μ₂ := by
  have := TsS.boolop (pos := pos) (AllS.or2 hx (fun _ => hy) fun e => by cases e)
  simpa using this
theorem eAnd {x y : Expr} {pos : Pos} {a b : Bool} (hx : EvS g sc n σ μ x (.bool a) μ) (hy : EvS g sc n σ μ y (.bool b) μ) : EvS g sc n σ μ (.BoolOp .And [x, y] pos) (.bool (a && b)) μ := EvS.and2 hx fun _ => hy
theorem eIfT {t b o : Expr} {pos : Pos} {d : D} (ht : TsS g sc n σ μ t true μ₁) (hb : EvS g sc n σ μ₁ b d μ₂) : EvS g sc n σ μ (.IfExp t b o pos) d μ₂ := EvS.ifexp ht (fun _ => hb) fun e => by cases e
theorem eIfF {t b o : Expr} {pos : Pos} {d : D} (ht : TsS g sc n σ μ t false μ₁) (ho : EvS g sc n σ μ₁ o d μ₂) : EvS g sc n σ μ (.IfExp t b o pos) d μ₂ := EvS.ifexp ht (fun e => by cases e) fun _ => ho

theorem xAssign {x : Str} {p pos : Pos} {e : Expr} {d : D} (h : EvS g sc n σ μ e d μ₁) (hx : sc.names.lookup x = some .local ∨ sc.names.lookup x = some .cell) (hs : ∀ env, env.scope = sc → swapsWith e (some (.Name x p)) pos.line env = pure false) :
    Ex1 g sc n σ μ (.Assign [.Name x p] e pos) .next (σ.put x d) μ₁ := Ex1.assign h hx hs
theorem xAssign2 {x y : Str} {px py tp pos : Pos} {k0 : Nat} {e : Expr} {a b : D} (h : EvS g sc n σ μ e (.tup [a, b]) μ₁) (hx : sc.names.lookup x = some .local) (hy : sc.names.lookup y = some .local)
    (hs : ∀ env, env.scope = sc → swapsWithSole [.Tuple [.Name x px, .Name y py] k0 tp] e pos.line env = pure false) (hw : ∀ env, env.scope = sc → swappedStores [.Tuple [.Name x px, .Name y py] k0 tp] e env = pure (some [x, y])) :
    Ex1 g sc n σ μ (.Assign [.Tuple [.Name x px, .Name y py] k0 tp] e pos) .next ((σ.put y b).put x a) μ₁ := Ex1.assign2 h hx hy hs hw
theorem EvS.to {e : Expr} {d d' : D} (h : EvS g sc n σ μ e d μ₁) (he : d = d') : EvS g sc n σ μ e d' μ₁ := he ▸ h
theorem TsS.to {e : Expr} {b b' : Bool} (h : TsS g sc n σ μ e b μ₁) (he : b = b') : TsS g sc n σ μ e b' μ₁ := he ▸ h
theorem CallS.to {f : Value} {ds : List D} {d d' : D} (h : CallS g n μ f ds d μ') (he : d = d') : CallS g n μ f ds d' μ' := he ▸ h
/-- more room does no harm -/
theorem Room.less {A : Around} {m : Nat} (h : Room A m) (hl : n ≤ m) : Room A n := ⟨by have := h.depth; omega, by have := h.units; omega⟩
theorem CallS.more {f : Value} {ds : List D} {d : D} {m : Nat} (h : CallS g n μ f ds d μ') (hl : n ≤ m) : CallS g m μ f ds d μ' := fun c R => h c (R.less hl)
end
-- part L16
/-! more rules for the walk -/
section
variable {g : Gl} {sc : Scope} {n : Nat} {σ σ₁ σ₂ σ' τ σc : Sg} {μ μ₁ μ₂ μ₃ μ' : Mu}

/-- an item of a tuple, a list, a list at hand -/
inductive ItemAt (μ : Mu) : D → Int → D → Prop
  | tup {ds : List D} {i : Int} {d : D} : pick i ds = some d → ItemAt μ (.tup ds) i d
  | lst {ds : List D} {i : Int} {d : D} : pick i ds = some d → ItemAt μ (.lst ds) i d
  | mref {a : Addr} {ds : List D} {i : Int} {d : D} : μ a = some ds → pick i ds = some d → ItemAt μ (.mref a) i d
theorem eItem {value slice : Expr} {pos : Pos} {v : D} {i : Int} {d : D} (hv : EvS g sc n σ μ value v μ₁) (hi : EvS g sc n σ μ₁ slice (.int i) μ₂) (h : ItemAt μ₂ v i d) (hb : -(2 ^ 62) < i ∧ i < 2 ^ 62) (hs : PlainSub slice i) : EvS g sc n σ μ (.Subscript value slice pos) d μ₂ := by
  cases h with
  | tup h => exact eItemT hv hi h hb hs
  | lst h => exact eItemL hv hi h hb hs
  | mref hm h => exact eItemR hv hi hm h hb hs
theorem EvS.mu {e : Expr} {d : D} (h : EvS g sc n σ μ e d μ₁) (he : μ₁ = μ₂) : EvS g sc n σ μ e d μ₂ := he ▸ h
end
-- part L17
def compSg (scope : Scope) (σ : Sg) : Sg := scope.names.filterMap fun x => if x.2 == .free then (σ.lookup x.1).map fun d => (x.1, d) else none
theorem compSub_go {scope : Scope} {σ : Sg} : ∀ (l : List (Str × NameKind)), (∀ x ∈ l, x ∈ scope.names) → CompSub scope σ (l.filterMap fun x => if x.2 == .free then (σ.lookup x.1).map fun d => (x.1, d) else none)
  | [], _ => .nil
  | (x, k) :: r, h => by
    rw [List.filterMap_cons]
    have ih := compSub_go (scope := scope) (σ := σ) r fun y hy => h y (.tail _ hy)
    by_cases hk : k = .free
    · subst hk
      simp only [beq_self_eq_true, if_true]
      cases hl : σ.lookup x with
      | none => simpa using ih
      | some d => exact .cons hl (h _ (.head _)) ih
    · have : (k == NameKind.free) = false := by simpa using hk
      simp only [this, Bool.false_eq_true, if_false]
      exact ih
theorem compSub_self (scope : Scope) (σ : Sg) : CompSub scope σ (compSg scope σ) := compSub_go _ fun _ h => h

theorem Sub.put {σ : Sg} {x : Str} {d : D} (h : σ.lookup x = none) : Sg.Sub σ (σ.put x d) := fun y e hy => by
  rw [lookup_put]
  by_cases q : (y == x) = true
  · rw [beq_iff_eq.mp q, h] at hy; cases hy
  · rw [if_neg q]; exact hy
theorem Sub.cons {σ τ : Sg} {x : Str} {d : D} (h : τ.lookup x = some d) (r : Sg.Sub σ τ) : Sg.Sub ((x, d) :: σ) τ := fun y e hy => by
  rw [List.lookup_cons] at hy
  cases q : y == x with
  | true => rw [q] at hy; cases hy; rw [beq_iff_eq.mp q]; exact h
  | false => rw [q] at hy; exact r y e hy
theorem Sub1 {τ : Sg} {x : Str} {d : D} (h : τ.lookup x = some d) : Sg.Sub [(x, d)] τ := Sub.cons h Sub.nil
theorem Sub2 {τ : Sg} {x y : Str} {d e : D} (h : τ.lookup x = some d) (h2 : τ.lookup y = some e) : Sg.Sub [(x, d), (y, e)] τ := Sub.cons h (Sub1 h2)
theorem Sub3 {τ : Sg} {x y z : Str} {d e f : D} (h : τ.lookup x = some d) (h2 : τ.lookup y = some e) (h3 : τ.lookup z = some f) : Sg.Sub [(x, d), (y, e), (z, f)] τ := Sub.cons h (Sub2 h2 h3)
theorem Sub4 {τ : Sg} {x y z w : Str} {d e f k : D} (h : τ.lookup x = some d) (h2 : τ.lookup y = some e) (h3 : τ.lookup z = some f) (h4 : τ.lookup w = some k) : Sg.Sub [(x, d), (y, e), (z, f), (w, k)] τ := Sub.cons h (Sub3 h2 h3 h4)
theorem Sub.trans {a b c : Sg} (h : a.Sub b) (k : b.Sub c) : a.Sub c := fun x d e => k x d (h x d e)

section
variable {g : Gl} {sc : Scope} {n : Nat} {σ σ₁ σ₂ σ' τ σc : Sg} {μ μ₁ μ₂ μ₃ μ' : Mu} {c : Cx}

/-! comprehensions over one name, nothing turned -/
theorem C1.gen {x : Str} {p : Pos} {elt : Expr} {ifs : List Expr} (P : D → Bool) (f : D → D) (hx : sc.names.lookup x = some .local ∨ sc.names.lookup x = some .cell) (hn : σ.lookup x = none) : ∀ (ds : List D),
    (∀ d ∈ ds, IfS g sc n (σ.put x d) μ ifs (P d) μ) → (∀ d ∈ ds, P d = true → EvS g sc n (σ.put x d) μ elt (f d) μ) → C1 g sc n (.Name x p) ifs elt ds σ μ ((ds.filter P).map f) σ μ
  | [], _, _ => .nil
  | d :: ds, h1, h2 => by
    have ih := C1.gen (p := p) (elt := elt) (ifs := ifs) P f hx hn ds (fun e he => h1 e (.tail _ he)) (fun e he => h2 e (.tail _ he))
    have t := h1 d (.head _)
    cases hP : P d with
    | false =>
      rw [List.filter_cons, hP]
      rw [hP] at t
      exact .skip (AsN.name hx (.head _)) t (Sub.put hn) ih
    | true =>
      rw [List.filter_cons, hP, if_pos rfl, List.map_cons]
      rw [hP] at t
      exact .take (AsN.name hx (.head _)) t (h2 d (.head _) hP) (Sub.put hn) ih
theorem C1.map {x : Str} {p : Pos} {elt : Expr} (f : D → D) (hx : sc.names.lookup x = some .local ∨ sc.names.lookup x = some .cell) (hn : σ.lookup x = none) (ds : List D)
    (h2 : ∀ d ∈ ds, EvS g sc n (σ.put x d) μ elt (f d) μ) : C1 g sc n (.Name x p) [] elt ds σ μ (ds.map f) σ μ := by
  have := C1.gen (g := g) (n := n) (μ := μ) (p := p) (elt := elt) (ifs := []) (fun _ => true) f hx hn ds (fun d hd => IfS.nil) fun d hd _ => h2 d hd
  rwa [List.filter_eq_self.mpr (fun _ _ => rfl)] at this

theorem C2.flat {x y : Str} {p q : Pos} {i2 elt : Expr} (F : D → List D) (hx : sc.names.lookup x = some .local ∨ sc.names.lookup x = some .cell) (hn : σ.lookup x = none) : ∀ (ds : List D),
    (∀ d ∈ ds, ∃ d2 ds2, EvS g sc n (σ.put x d) μ i2 d2 μ ∧ d2.items = some ds2 ∧ (∀ a m, d2 = .rng a m → -1000 ≤ a ∧ a ≤ 1000 ∧ m ≤ 1000) ∧ ∃ σ₂, C1 g sc n (.Name y q) [] elt ds2 (σ.put x d) μ (F d) σ₂ μ ∧ Sg.Sub σ σ₂) →
    C2 g sc n (.Name x p) i2 (.Name y q) elt ds σ μ (ds.flatMap F) σ μ
  | [], _ => .nil
  | d :: ds, h => by
    have ih := C2.flat (p := p) (q := q) (i2 := i2) (elt := elt) F hx hn ds fun e he => h e (.tail _ he)
    obtain ⟨d2, ds2, h1, h2, h3, σ₂, h4, h5⟩ := h d (.head _)
    rw [List.flatMap_cons]
    exact .step (AsN.name hx (.head _)) h1 h2 h3 h4 h5 ih

/-- a list comprehension [elt for x in iter] -/
theorem eMap {x : Str} {p : Pos} {scope : Scope} {elt iter : Expr} {epos : Pos} {d : D} {ds : List D} (f : D → D) (hi : EvS g sc n σ μ iter d μ₁) (hd : d.items = some ds) (hsz : ds.length ≤ 1000)
    (hx : (relab scope sc).names.lookup x = some .local ∨ (relab scope sc).names.lookup x = some .cell) (hn : (compSg scope σ).lookup x = none)
    (N : CompNames scope sc) (hns : scope.names.lookup x = some .local ∨ scope.names.lookup x = some .cell)
    (hsm : ∀ a m, d = .rng a m → -1000 ≤ a ∧ a ≤ 1000 ∧ m ≤ 1000) (hs : ∀ env x, foldedSetIterable iter env x = pure x)
    (h : ∀ d ∈ ds, EvS g (relab scope sc) n ((compSg scope σ).put x d) μ₁ elt (f d) μ₁) :
    EvS g sc n σ μ (.ListComp elt [⟨.Name x p, iter, [], 0⟩] scope epos) (.lst (ds.map f)) μ₁ :=
  EvS.comp1 (compSg scope σ) hi hd (C1.map f hx hn ds h) (by simpa using hsz) (compSub_self _ _) N (fun y hy => by rw [List.mem_singleton.mp hy]; exact hns) hsm hs
/-- [elt for x in iter if test] -/
theorem eFilter {x : Str} {p : Pos} {scope : Scope} {elt iter t : Expr} {epos : Pos} {d : D} {ds : List D} (P : D → Bool) (f : D → D) (hi : EvS g sc n σ μ iter d μ₁) (hd : d.items = some ds) (hsz : ds.length ≤ 1000)
    (hx : (relab scope sc).names.lookup x = some .local ∨ (relab scope sc).names.lookup x = some .cell) (hn : (compSg scope σ).lookup x = none)
    (N : CompNames scope sc) (hns : scope.names.lookup x = some .local ∨ scope.names.lookup x = some .cell)
    (hsm : ∀ a m, d = .rng a m → -1000 ≤ a ∧ a ≤ 1000 ∧ m ≤ 1000) (hs : ∀ env x, foldedSetIterable iter env x = pure x)
    (ht : ∀ d ∈ ds, TsS g (relab scope sc) n ((compSg scope σ).put x d) μ₁ t (P d) μ₁)
    (h : ∀ d ∈ ds, EvS g (relab scope sc) n ((compSg scope σ).put x d) μ₁ elt (f d) μ₁) :
    EvS g sc n σ μ (.ListComp elt [⟨.Name x p, iter, [t], 0⟩] scope epos) (.lst ((ds.filter P).map f)) μ₁ :=
  EvS.comp1 (compSg scope σ) hi hd (C1.gen P f hx hn ds (fun d hd => IfS.one (ht d hd)) fun d hd _ => h d hd) (by rw [List.length_map]; exact Nat.le_trans (List.length_filter_le ..) hsz) (compSub_self _ _) N (fun y hy => by rw [List.mem_singleton.mp hy]; exact hns) hsm hs
/-- the same stored under a name of the source -/
theorem xFilter {y x : Str} {py pos p : Pos} {scope : Scope} {elt iter t : Expr} {epos : Pos} {d : D} {ds : List D} (P : D → Bool) (f : D → D) (hi : EvS g sc n σ μ iter d μ₁) (hd : d.items = some ds) (hsz : ds.length ≤ 1000)
    (hx : (relab scope sc).names.lookup x = some .local ∨ (relab scope sc).names.lookup x = some .cell) (hn : (compSg scope σ).lookup x = none)
    (N : CompNames scope sc) (hns : scope.names.lookup x = some .local ∨ scope.names.lookup x = some .cell)
    (hsm : ∀ a m, d = .rng a m → -1000 ≤ a ∧ a ≤ 1000 ∧ m ≤ 1000) (hs : ∀ env x, foldedSetIterable iter env x = pure x) (hy : sc.names.lookup y = some .local)
    (hsw : ∀ env, env.scope = sc → swapsWith (.ListComp elt [⟨.Name x p, iter, [t], 0⟩] scope epos) (some (.Name y py)) pos.line env = pure true)
    (ht : ∀ d ∈ ds, TsS g (relab scope sc) n ((compSg scope σ).put x d) μ₁ t (P d) μ₁)
    (h : ∀ d ∈ ds, EvS g (relab scope sc) n ((compSg scope σ).put x d) μ₁ elt (f d) μ₁) :
    Ex1 g sc n σ μ (.Assign [.Name y py] (.ListComp elt [⟨.Name x p, iter, [t], 0⟩] scope epos) pos) .next (σ.put y (.lst ((ds.filter P).map f))) μ₁ :=
  Ex1.assignComp1 (compSg scope σ) hi hd (C1.gen P f hx hn ds (fun d hd => IfS.one (ht d hd)) fun d hd _ => h d hd) (by rw [List.length_map]; exact Nat.le_trans (List.length_filter_le ..) hsz) (compSub_self _ _) N (fun y hy => by rw [List.mem_singleton.mp hy]; exact hns) hsm hy hsw hs
theorem xMap {y x : Str} {py pos p : Pos} {scope : Scope} {elt iter : Expr} {epos : Pos} {d : D} {ds : List D} (f : D → D) (hi : EvS g sc n σ μ iter d μ₁) (hd : d.items = some ds) (hsz : ds.length ≤ 1000)
    (hx : (relab scope sc).names.lookup x = some .local ∨ (relab scope sc).names.lookup x = some .cell) (hn : (compSg scope σ).lookup x = none)
    (N : CompNames scope sc) (hns : scope.names.lookup x = some .local ∨ scope.names.lookup x = some .cell)
    (hsm : ∀ a m, d = .rng a m → -1000 ≤ a ∧ a ≤ 1000 ∧ m ≤ 1000) (hs : ∀ env x, foldedSetIterable iter env x = pure x) (hy : sc.names.lookup y = some .local)
    (hsw : ∀ env, env.scope = sc → swapsWith (.ListComp elt [⟨.Name x p, iter, [], 0⟩] scope epos) (some (.Name y py)) pos.line env = pure true)
    (h : ∀ d ∈ ds, EvS g (relab scope sc) n ((compSg scope σ).put x d) μ₁ elt (f d) μ₁) :
    Ex1 g sc n σ μ (.Assign [.Name y py] (.ListComp elt [⟨.Name x p, iter, [], 0⟩] scope epos) pos) .next (σ.put y (.lst (ds.map f))) μ₁ :=
  Ex1.assignComp1 (compSg scope σ) hi hd (C1.map f hx hn ds h) (by simpa using hsz) (compSub_self _ _) N (fun y hy => by rw [List.mem_singleton.mp hy]; exact hns) hsm hy hsw hs

/-- the second for's parts for one item of the first -/
structure Flat (g : Gl) (sc' : Scope) (n : Nat) (σ : Sg) (μ : Mu) (x y : Str) (i2 elt : Expr) (d d2 : D) (ds2 : List D) (f : D → D) : Prop where
  ev : EvS g sc' n (σ.put x d) μ i2 d2 μ
  it : d2.items = some ds2
  sm : ∀ a m, d2 = .rng a m → -1000 ≤ a ∧ a ≤ 1000 ∧ m ≤ 1000
  el : ∀ e ∈ ds2, EvS g sc' n ((σ.put x d).put y e) μ elt (f e) μ
theorem C2.flatN {x y : Str} {p q : Pos} {i2 elt : Expr} (F : D → D) (L : D → List D) (f : D → D → D) (hx : sc.names.lookup x = some .local ∨ sc.names.lookup x = some .cell) (hy : sc.names.lookup y = some .local ∨ sc.names.lookup y = some .cell) (hn : σ.lookup x = none) (hyn : σ.lookup y = none) (hxy : (y == x) = false) (ds : List D)
    (h : ∀ d ∈ ds, Flat g sc n σ μ x y i2 elt d (F d) (L d) (f d)) : C2 g sc n (.Name x p) i2 (.Name y q) elt ds σ μ (ds.flatMap fun d => (L d).map (f d)) σ μ := by
  refine C2.flat _ hx hn ds fun d hd => ?_
  have k := h d hd
  exact ⟨_, _, k.ev, k.it, k.sm, _, C1.map (f d) hy (by rw [lookup_put, hxy]; simpa using hyn) _ k.el, Sub.put hn⟩
theorem flat_len {α β : Type} (L : α → List β) : ∀ (ds : List α) (m : Nat), (∀ d ∈ ds, (L d).length ≤ m) → (ds.flatMap L).length ≤ ds.length * m
  | [], m, _ => by simp
  | d :: ds, m, h => by
    have := flat_len L ds m fun e he => h e (.tail _ he)
    have h1 := h d (.head _)
    rw [List.flatMap_cons, List.length_append, List.length_cons, Nat.succ_mul]
    omega
theorem eFlat {x y : Str} {p q : Pos} {scope : Scope} {i1 i2 elt : Expr} {epos : Pos} {d : D} {ds : List D} (F : D → D) (L : D → List D) (f : D → D → D) (hi : EvS g sc n σ μ i1 d μ₁) (hd : d.items = some ds) (hsz : (ds.flatMap fun d => (L d).map (f d)).length ≤ 1000)
    (hx : (relab scope sc).names.lookup x = some .local ∨ (relab scope sc).names.lookup x = some .cell) (hy : (relab scope sc).names.lookup y = some .local ∨ (relab scope sc).names.lookup y = some .cell) (hn : (compSg scope σ).lookup x = none) (hyn : (compSg scope σ).lookup y = none) (hxy : (y == x) = false)
    (N : CompNames scope sc) (hns : scope.names.lookup x = some .local ∨ scope.names.lookup x = some .cell) (hns2 : scope.names.lookup y = some .local ∨ scope.names.lookup y = some .cell)
    (hsm : ∀ a m, d = .rng a m → -1000 ≤ a ∧ a ≤ 1000 ∧ m ≤ 1000) (hs : ∀ env x, foldedSetIterable i1 env x = pure x) (hs2 : ∀ env x, foldedSetIterable i2 env x = pure x)
    (h : ∀ d ∈ ds, Flat g (relab scope sc) n (compSg scope σ) μ₁ x y i2 elt d (F d) (L d) (f d)) :
    EvS g sc n σ μ (.ListComp elt [⟨.Name x p, i1, [], 0⟩, ⟨.Name y q, i2, [], 0⟩] scope epos) (.lst (ds.flatMap fun d => (L d).map (f d))) μ₁ :=
  EvS.comp2 (compSg scope σ) hi hd (C2.flatN F L f hx hy hn hyn hxy ds h) hsz (compSub_self _ _) N (fun z hz => by
    rcases List.mem_append.mp hz with q | q
    · rw [List.mem_singleton.mp q]; exact hns
    · rw [List.mem_singleton.mp q]; exact hns2) hsm hs hs2
theorem xFlat {z x y : Str} {pz pos p q : Pos} {scope : Scope} {i1 i2 elt : Expr} {epos : Pos} {d : D} {ds : List D} (F : D → D) (L : D → List D) (f : D → D → D) (hi : EvS g sc n σ μ i1 d μ₁) (hd : d.items = some ds) (hsz : (ds.flatMap fun d => (L d).map (f d)).length ≤ 1000)
    (hx : (relab scope sc).names.lookup x = some .local ∨ (relab scope sc).names.lookup x = some .cell) (hy : (relab scope sc).names.lookup y = some .local ∨ (relab scope sc).names.lookup y = some .cell) (hn : (compSg scope σ).lookup x = none) (hyn : (compSg scope σ).lookup y = none) (hxy : (y == x) = false)
    (N : CompNames scope sc) (hns : scope.names.lookup x = some .local ∨ scope.names.lookup x = some .cell) (hns2 : scope.names.lookup y = some .local ∨ scope.names.lookup y = some .cell)
    (hsm : ∀ a m, d = .rng a m → -1000 ≤ a ∧ a ≤ 1000 ∧ m ≤ 1000) (hs : ∀ env x, foldedSetIterable i1 env x = pure x) (hs2 : ∀ env x, foldedSetIterable i2 env x = pure x) (hz : sc.names.lookup z = some .local)
    (hsw : ∀ env, env.scope = sc → swapsWith (.ListComp elt [⟨.Name x p, i1, [], 0⟩, ⟨.Name y q, i2, [], 0⟩] scope epos) (some (.Name z pz)) pos.line env = pure true)
    (h : ∀ d ∈ ds, Flat g (relab scope sc) n (compSg scope σ) μ₁ x y i2 elt d (F d) (L d) (f d)) :
    Ex1 g sc n σ μ (.Assign [.Name z pz] (.ListComp elt [⟨.Name x p, i1, [], 0⟩, ⟨.Name y q, i2, [], 0⟩] scope epos) pos) .next (σ.put z (.lst (ds.flatMap fun d => (L d).map (f d)))) μ₁ :=
  Ex1.assignComp2 (compSg scope σ) hi hd (C2.flatN F L f hx hy hn hyn hxy ds h) hsz (compSub_self _ _) N (fun z hz => by
    rcases List.mem_append.mp hz with q | q
    · rw [List.mem_singleton.mp q]; exact hns
    · rw [List.mem_singleton.mp q]; exact hns2) hsm hz hsw hs hs2

/-! loops by what holds between the turns -/
theorem forRuns_inv {tgt : Expr} {body : List Stmt} (Inv : List D → List D → Sg → Mu → Prop) (step : ∀ done d rest σ μ, Inv done (d :: rest) σ μ → ∃ σ₁ σ₂ μ₂ τ, AsS g sc σ tgt d σ₁ ∧ ExS g sc n σ₁ μ body .next σ₂ μ₂ ∧ Sg.Sub τ σ₂ ∧ Inv (done ++ [d]) rest τ μ₂) :
    ∀ (ds done : List D) (σ : Sg) (μ : Mu), Inv done ds σ μ → ∃ σe μe, ForRuns g sc n tgt body ds σ μ .next σe μe ∧ Inv (done ++ ds) [] σe μe
  | [], done, σ, μ, h => ⟨σ, μ, .nil, by simpa using h⟩
  | d :: ds, done, σ, μ, h => by
    obtain ⟨σ₁, σ₂, μ₂, τ, h1, h2, h3, h4⟩ := step done d ds σ μ h
    obtain ⟨σe, μe, h5, h6⟩ := forRuns_inv Inv step ds (done ++ [d]) τ μ₂ h4
    exact ⟨σe, μe, .step h1 h2 h3 h5, by simpa using h6⟩
theorem xFor {tgt iter : Expr} {body ss : List Stmt} {pos : Pos} {d : D} {ds : List D} {fl : Fl} (Inv : List D → List D → Sg → Mu → Prop) (σ₀ : Sg) (hi : EvS g sc n σ₀ μ iter d μ₁) (hd : d.items = some ds)
    (hsm : ∀ a m, d = .rng a m → -1000 ≤ a ∧ a ≤ 1000 ∧ m ≤ 1000) (hs : ∀ env x, foldedSetIterable iter env x = pure x)
    (hw : Sg.Sub σ₀ σ) (h0 : Inv [] ds σ₀ μ₁) (step : ∀ done d rest σ μ, Inv done (d :: rest) σ μ → ∃ σ₁ σ₂ μ₂ τ, AsS g sc σ tgt d σ₁ ∧ ExS g sc n σ₁ μ body .next σ₂ μ₂ ∧ Sg.Sub τ σ₂ ∧ Inv (done ++ [d]) rest τ μ₂)
    (rest : ∀ σe μe, Inv ds [] σe μe → ExS g sc n σe μe ss fl σ' μ') : ExS g sc n σ μ (.For tgt iter body [] pos :: ss) fl σ' μ' := by
  refine ExS.strong (σ := σ₀) ?_ hw
  obtain ⟨σe, μe, h1, h2⟩ := forRuns_inv Inv step ds [] σ₀ μ₁ h0
  exact ExS.cons (Ex1.for_ hi hd h1 hsm hs) (rest σe μe (by simpa using h2))

theorem xWhile {t : Expr} {body ss : List Stmt} {pos : Pos} {fl : Fl} (Inv : Nat → Sg → Mu → Prop) (m : Nat) (σ₀ : Sg) (hw : Sg.Sub σ₀ σ) (h0 : Inv m σ₀ μ)
    (step : ∀ m σ μ, Inv m σ μ → TsS g sc n σ μ t true μ ∧ (∃ σ₂ μ₂ τ m', ExS g sc n σ μ body .next σ₂ μ₂ ∧ Sg.Sub τ σ₂ ∧ m' < m ∧ Inv m' τ μ₂) ∨ TsS g sc n σ μ t false μ ∧ ExS g sc n σ μ ss fl σ' μ') :
    ExS g sc n σ μ (.While t body [] pos :: ss) fl σ' μ' := by
  have key : ∀ m σ μ, Inv m σ μ → ∃ k σe μe, WhileN g sc n t body k σ μ σe μe ∧ ExS g sc n σe μe ss fl σ' μ' := by
    intro m
    induction m using Nat.strongRecOn with
    | ind m ih =>
      intro σ μ h
      rcases step m σ μ h with ⟨h1, σ₂, μ₂, τ, m', h2, h3, h4, h5⟩ | ⟨h1, h2⟩
      · obtain ⟨k, σe, μe, h6, h7⟩ := ih m' h4 τ μ₂ h5
        exact ⟨k + 1, σe, μe, .step h1 h2 h3 h6, h7⟩
      · exact ⟨0, σ, μ, .done h1, h2⟩
  obtain ⟨k, σe, μe, h1, h2⟩ := key m σ₀ μ h0
  refine ExS.strong (σ := σ₀) ?_ hw
  exact ExS.cons (Ex1.while_ h1) h2
theorem wStep {t : Expr} {body ss : List Stmt} {fl : Fl} {Inv : Nat → Sg → Mu → Prop} {m : Nat} (τ : Sg) (m' : Nat) (h1 : TsS g sc n σ μ t true μ) (h2 : ExS g sc n σ μ body .next σ₂ μ₂) (h3 : Sg.Sub τ σ₂) (h4 : m' < m) (h5 : Inv m' τ μ₂) :
    TsS g sc n σ μ t true μ ∧ (∃ σ₂ μ₂ τ m', ExS g sc n σ μ body .next σ₂ μ₂ ∧ Sg.Sub τ σ₂ ∧ m' < m ∧ Inv m' τ μ₂) ∨ TsS g sc n σ μ t false μ ∧ ExS g sc n σ μ ss fl σ' μ' := .inl ⟨h1, σ₂, μ₂, τ, m', h2, h3, h4, h5⟩
theorem fStep {tgt : Expr} {d : D} {body : List Stmt} {P : Sg → Mu → Prop} (τ : Sg) (h1 : AsS g sc σ tgt d σ₁) (h2 : ExS g sc n σ₁ μ body .next σ₂ μ₂) (h3 : Sg.Sub τ σ₂) (h4 : P τ μ₂) :
    ∃ σ₁ σ₂ μ₂ τ, AsS g sc σ tgt d σ₁ ∧ ExS g sc n σ₁ μ body .next σ₂ μ₂ ∧ Sg.Sub τ σ₂ ∧ P τ μ₂ := ⟨σ₁, σ₂, μ₂, τ, h1, h2, h3, h4⟩
theorem xRetM {e : Expr} {pos : Pos} {a : Addr} {ds : List D} {ss : List Stmt} (h : EvS g sc n σ μ e (.mref a) μ₁) (hm : μ₁ a = some ds) (hdel : μ₁.del a = μ₂) : ExS g sc n σ μ (.Return (some e) pos :: ss) (.ret (.lst ds)) [] μ₂ := hdel ▸ ExS.retM h hm
theorem xTake {x : Str} {p pos : Pos} {e : Expr} {a : Addr} {ds : List D} (h : EvS g sc n σ μ e (.mref a) μ₁) (hm : μ₁ a = some ds) (hx : sc.names.lookup x = some .local ∨ sc.names.lookup x = some .cell)
    (hs : ∀ env, env.scope = sc → swapsWith e (some (.Name x p)) pos.line env = pure false) (hdel : μ₁.del a = μ₂) : Ex1 g sc n σ μ (.Assign [.Name x p] e pos) .next (σ.put x (.lst ds)) μ₂ := hdel ▸ Ex1.assignMut h hm hx hs
end
-- part L18
/-! zip over two tuples, the target a pair: each turn hands out a tuple of its own -/

theorem neA {a b : Nat} (h : a ≠ b) : @Ne Addr a b := h
/-- the places of the zip made when the heap had z objects -/
def zp (z : Nat) (a : Nat) : Prop := a = z ∨ a = z + 1 ∨ a = z + 2 ∨ a = z + 3 ∨ a = z + 4

/-- the zip stands before item k -/
structure ZipAt (h : Heap) (z l1 l2 : Nat) (f0 : Value) (k : Nat) : Prop where
  zrec : IsZip h (z + 4) (z + 2) (z + 3) f0
  its : IsPair h (z + 2) (.ref z) (.ref (z + 1))
  out : ∃ a b, IsPair h (z + 3) a b
  one : IsTupIter h z l1 k
  two : IsTupIter h (z + 1) l2 k
theorem ZipAt.keep {h h' : Heap} {z l1 l2 : Nat} {f0 : Value} {k : Nat} (x : ZipAt h z l1 l2 f0 k) (hk : ∀ a : Nat, zp z a → ∀ o, h.get? a = some o → h'.get? a = some o) : ZipAt h' z l1 l2 f0 k := by
  obtain ⟨a, b, ⟨c, d, e⟩, ⟨o1, f, f'⟩, ⟨o2, g, g'⟩⟩ := x
  exact ⟨hk _ (by unfold zp; omega) _ a, hk _ (by unfold zp; omega) _ b, ⟨c, d, hk _ (by unfold zp; omega) _ e⟩, ⟨o1, hk _ (by unfold zp; omega) _ f, f'⟩, ⟨o2, hk _ (by unfold zp; omega) _ g, g'⟩⟩
theorem ZipAt.live {h : Heap} {z l1 l2 : Nat} {f0 : Value} {k : Nat} (x : ZipAt h z l1 l2 f0 k) : ∀ a : Nat, zp z a → h.get? a ≠ none := by
  obtain ⟨a, b, ⟨c, d, e⟩, ⟨o1, f, f'⟩, ⟨o2, g, g'⟩⟩ := x
  intro y hy
  rcases hy with rfl | rfl | rfl | rfl | rfl
  · rw [f]; simp
  · rw [g]; simp
  · rw [b]; simp
  · rw [e]; simp
  · rw [a]; simp
theorem tupIter_but {h h' : Heap} {i l a : Nat} {k : Nat} (x : IsTupIter h i l k) (hs : Heap.SameBut a h h') (hne : i ≠ a) : IsTupIter h' i l k := by
  obtain ⟨o, ho, r⟩ := x
  exact ⟨o, (hs.2 i hne).trans ho, r⟩
theorem isTup_but {h h' : Heap} {l a : Nat} {items : Array Value} (x : IsTup h l items) (hs : Heap.SameBut a h h') (hne : l ≠ a) : IsTup h' l items := by
  obtain ⟨o, ho, r⟩ := x
  exact ⟨o, (hs.2 l hne).trans ho, r⟩

section
variable {prog : Program} {w : World} {A : Around} {E : Value → Shared → Prop} {s : Shared}

theorem nextOf_tup {it t : Nat} {i : Nat} {items : Array Value} {x : Value} {Q : Value → Shared → Prop} (hit : IsTupIter s.heap it t i) (ht : IsTup s.heap t items) (hx : items[i]? = some x)
    (hQ : ∀ h', IsTupIter h' it t (i + 1) → Heap.SameBut it s.heap h' → Q x { s with heap := h' }) : wpAny (model prog w) A (Builtin.SmallTypes.nextOf (.ref it)) Q E s := by
  obtain ⟨o, ho, hc, hd⟩ := id hit
  obtain ⟨ol, hol, _, nl, hdl⟩ := ht
  unfold Builtin.SmallTypes.nextOf
  refine wpAny_bind (wpAny_callSpecial?_slot (name := Str.ofString "__next__") hit.typeIs slot_tupleiter_next (wpAny_call_entry slot_tupleiter_next hit.typeIs entry_tupleiter_next ?_ (args_tupleiter_next _)))
  show wpAny _ _ (field (.ref it) 0 >>= _) _ _ s
  refine wpAny_bind (wpAny_field ho hd (x := .ref t) rfl ?_)
  show wpAny _ _ (if (Value.ref t == Value.none) = true then _ else _) _ _ s
  rw [if_neg (show ¬ ((Value.ref t == Value.none) = true) from Bool.false_ne_true)]
  show wpAny _ _ (field (.ref it) 1 >>= _) _ _ s
  refine wpAny_bind (wpAny_field ho hd (x := .int i 0) rfl ?_)
  show wpAny _ _ (seqItems? (.ref t) >>= _) _ _ s
  refine wpAny_bind (wpAny_seqItems hol hdl ?_)
  simp only [Int.toNat_natCast, hx]
  refine wpAny_bind (wpAny_setField ho hd (by simp) (wpAny_pure ⟨x, rfl, wpAny_pure (hQ _ ?_ (Heap.SameBut.update ..))⟩))
  exact ⟨_, Heap.get?_update_self _ ho (Obj.isFreed_of_fields (Obj.data_mapFields hd _)), (Obj.cls_mapFields ..).trans hc, by rw [Obj.data_mapFields hd]; simp [rawInt]⟩
theorem nextOf_tup_end {it t : Nat} {i : Nat} {items : Array Value} {Q : Value → Shared → Prop} (hh : A.handled = none) (hit : IsTupIter s.heap it t i) (ht : IsTup s.heap t items) (hx : items[i]? = none)
    (hE : ∀ h' e, Heap.ExtBut it s.heap h' → (∃ o, h'.get? e = some o ∧ o.cls = .type "StopIteration") → E (.ref e) { s with heap := h' }) : wpAny (model prog w) A (Builtin.SmallTypes.nextOf (.ref it)) Q E s := by
  obtain ⟨o, ho, hc, hd⟩ := id hit
  obtain ⟨ol, hol, _, nl, hdl⟩ := ht
  unfold Builtin.SmallTypes.nextOf
  refine wpAny_bind (wpAny_callSpecial?_slot (name := Str.ofString "__next__") hit.typeIs slot_tupleiter_next (wpAny_call_entry slot_tupleiter_next hit.typeIs entry_tupleiter_next ?_ (args_tupleiter_next _)))
  show wpAny _ _ (field (.ref it) 0 >>= _) _ _ s
  refine wpAny_bind (wpAny_field ho hd (x := .ref t) rfl ?_)
  show wpAny _ _ (if (Value.ref t == Value.none) = true then _ else _) _ _ s
  rw [if_neg (show ¬ ((Value.ref t == Value.none) = true) from Bool.false_ne_true)]
  show wpAny _ _ (field (.ref it) 1 >>= _) _ _ s
  refine wpAny_bind (wpAny_field ho hd (x := .int i 0) rfl ?_)
  show wpAny _ _ (seqItems? (.ref t) >>= _) _ _ s
  refine wpAny_bind (wpAny_seqItems hol hdl ?_)
  simp only [Int.toNat_natCast, hx]
  refine wpAny_bind (wpAny_rule (wpAny_bind (wpAny_setField ho hd (by simp) ?_)))
  show wpAny _ _ (newExc (.type "StopIteration") [] >>= _) _ _ _
  refine wpAny_bind ?_
  simp only [newExc, newTuple]
  refine wpAny_bind (wpAny_newObj_type ?_ (by size_fits))
  refine wpAny_bind (m := firstArgMember _ _) (wpAny_of_eq (a := Value.none) (by first | rfl | (simp only [firstArgMember]; rfl)) ?_)
  refine wpAny_newObj_type ?_ (by size_fits)
  simp only [raiseNew]
  refine wpAny_bind (wpAny_handled ?_)
  first | rw [show A.in1.handled = none from hh] | rw [hh]
  exact wpAny_bind (wpAny_pure (wpAny_throw (hE _ _ (((Heap.SameBut.update ..).extBut.push _).push _) ⟨_, Heap.get?_push_size _ rfl, rfl⟩)))

/-- the next pair -/
theorem zipT_item {z l1 l2 : Nat} {k : Nat} {xs ys : Array Value} {x y : Value} {Q : Option Value → Shared → Prop} (hz : ZipAt s.heap z l1 l2 .none k) (n1 : ¬ zp z l1) (n2 : ¬ zp z l2) (h1 : IsTup s.heap l1 xs) (h2 : IsTup s.heap l2 ys) (hx : xs[k]? = some x) (hy : ys[k]? = some y)
    (hQ : ∀ h', ZipAt h' z l1 l2 (rawInt s.heap.objs.size) (k + 1) → IsPair h' s.heap.objs.size x y → (∀ (c : Nat) o, ¬ zp z c → s.heap.get? c = some o → h'.get? c = some o) → Q (some (.ref s.heap.objs.size)) { s with heap := h' }) :
    wpAny (model prog w) A (pyNext (.ref (z + 4))) Q E s := by
  obtain ⟨hr, hTI, ⟨a, b, hTO⟩, i1, i2⟩ := hz
  have hT : s.TypeIs (.ref (z + 4)) "zip" := ⟨_, hr, rfl⟩
  have d1 : l1 ≠ z ∧ l1 ≠ z + 1 ∧ l1 ≠ z + 2 ∧ l1 ≠ z + 3 ∧ l1 ≠ z + 4 := by unfold zp at n1; omega
  have d2 : l2 ≠ z ∧ l2 ≠ z + 1 ∧ l2 ≠ z + 2 ∧ l2 ≠ z + 3 ∧ l2 ≠ z + 4 := by unfold zp at n2; omega
  unfold pyNext
  refine wpAny_bind (wpAny_attempt (wpAny_callSpecial?_slot (name := Str.ofString "__next__") hT F.slot_zip_next (wpAny_call_entry F.slot_zip_next hT F.entry_zip_next ?_ (F.args_zip_next_1 _))))
  show wpAny _ _ (field (.ref (z + 4)) 2 >>= _) _ _ _
  refine wpAny_bind (wpAny_field hr rfl (x := .bool false) rfl ?_)
  show wpAny _ _ (field (.ref (z + 4)) 3 >>= _) _ _ _
  refine wpAny_bind (wpAny_field hr rfl (x := .ref (z + 2)) rfl (wpAny_bind (wpAny_seqItems hTI rfl ?_)))
  show wpAny _ _ (Builtin.SmallTypes.ownedTupleIsFree (.ref (z + 4)) >>= _) _ _ _
  refine wpAny_bind ?_
  unfold Builtin.SmallTypes.ownedTupleIsFree
  refine wpAny_bind (wpAny_field hr rfl (x := .none) rfl (wpAny_pure ?_))
  simp only [if_true]
  refine wpAny_bind (wpAny_rule (wpAny_bind (wpAny_field hr rfl (x := .ref (z + 3)) rfl (wpAny_bind (wpAny_setField_rec hr (by simp) fun u1 r1 e1 => wpAny_bind ?_)))))
  simp only [List.zipIdx_cons, List.zipIdx_nil, List.forIn_cons, List.forIn_nil]
  refine wpAny_bind (wpAny_bind (wpAny_onRaise ?_))
  show wpAny _ _ (Builtin.SmallTypes.nextOf (.ref z) >>= _) _ _ _
  refine wpAny_bind (nextOf_tup (s := { s with heap := u1 }) (tupIter_but i1 e1 (neA (by omega))) (isTup_but h1 e1 (neA (by omega))) hx fun u2 j1 e2 => wpAny_pure ?_)
  have o2 : IsPair u2 (z + 3) a b := (e2.2 _ (neA (by omega))).trans ((e1.2 _ (neA (by omega))).trans hTO)
  refine wpAny_bind (wpAny_seqItems o2 rfl (wpAny_bind (wpAny_updateSeq_pair (s := { s with heap := u2 }) o2 fun u3 o3 e3 => wpAny_bind (wpAny_letGo (wpAny_pure ?_)))))
  replace o3 : IsPair u3 (z + 3) x b := o3
  refine wpAny_bind (wpAny_bind (wpAny_onRaise ?_))
  show wpAny _ _ (Builtin.SmallTypes.nextOf (.ref (z + 1)) >>= _) _ _ _
  refine wpAny_bind (nextOf_tup (s := { s with heap := u3 }) (tupIter_but (tupIter_but (tupIter_but i2 e1 (neA (by omega))) e2 (neA (by omega))) e3 (neA (by omega))) (isTup_but (isTup_but (isTup_but h2 e1 (neA (by omega))) e2 (neA (by omega))) e3 (neA (by omega))) hy fun u4 j2 e4 => wpAny_pure ?_)
  have o4 : IsPair u4 (z + 3) x b := (e4.2 _ (neA (by omega))).trans o3
  refine wpAny_bind (wpAny_seqItems o4 rfl (wpAny_bind (wpAny_updateSeq_pair (s := { s with heap := u4 }) o4 fun u5 o5 e5 => wpAny_bind (wpAny_letGo (wpAny_pure (wpAny_pure ?_))))))
  replace o5 : IsPair u5 (z + 3) x y := o5
  refine wpAny_bind (wpAny_seqItems o5 rfl (wpAny_bind (wpAny_newTuple ?_)))
  have sz : u5.objs.size = s.heap.objs.size := by rw [e5.1, e4.1, e3.1, e2.1, e1.1]
  have r5 : IsZip u5 (z + 4) (z + 2) (z + 3) .ellipsis := (e5.2 _ (neA (by omega))).trans ((e4.2 _ (neA (by omega))).trans ((e3.2 _ (neA (by omega))).trans ((e2.2 _ (neA (by omega))).trans r1)))
  have k5 : ∀ (c : Nat) o, c ≠ z → c ≠ z + 1 → c ≠ z + 3 → c ≠ z + 4 → s.heap.get? c = some o → u5.get? c = some o := fun c o q1 q2 q3 q4 e =>
    (e5.2 _ q3).trans ((e4.2 _ q2).trans ((e3.2 _ q3).trans ((e2.2 _ q1).trans ((e1.2 _ q4).trans e))))
  have i15 : IsTupIter u5 z l1 (k + 1) := tupIter_but (tupIter_but (tupIter_but j1 e3 (neA (by omega))) e4 (neA (by omega))) e5 (neA (by omega))
  have i25 : IsTupIter u5 (z + 1) l2 (k + 1) := tupIter_but j2 e5 (neA (by omega))
  have zlt : z + 4 < u5.objs.size := Heap.lt_size r5
  show wpAny _ _ (Builtin.SmallTypes.ownedTupleHandOut (.ref (z + 4)) (.ref u5.objs.size) >>= _) _ _ _
  refine wpAny_bind ?_
  unfold Builtin.SmallTypes.ownedTupleHandOut
  have r6 : IsZip (u5.push { cls := .type "tuple", data := .seq #[x, y] }) (z + 4) (z + 2) (z + 3) .ellipsis := Heap.get?_push_of_some _ r5
  refine wpAny_bind (wpAny_setField_rec r6 (by simp) fun u7 r7 e7 => ?_)
  replace r7 : IsZip u7 (z + 4) (z + 2) (z + 3) (rawInt u5.objs.size) := r7
  refine wpAny_setField_rec r7 (by simp) fun u8 r8 e8 => ?_
  replace r8 : IsZip u8 (z + 4) (z + 2) (z + 3) (rawInt u5.objs.size) := r8
  have up : ∀ (c : Nat) o, c ≠ z + 4 → u5.get? c = some o → u8.get? c = some o := fun c o q e => (e8.2 _ q).trans ((e7.2 _ q).trans (Heap.get?_push_of_some _ e))
  have t8 : IsPair u8 u5.objs.size x y := (e8.2 _ (neA (by omega))).trans ((e7.2 _ (neA (by omega))).trans (Heap.get?_push_size _ rfl))
  refine wpAny_pure ⟨_, rfl, wpAny_pure ?_⟩
  rw [sz] at r8 t8
  show Q (some (.ref u5.objs.size)) _
  rw [sz]
  refine hQ u8 ⟨r8, up _ _ (neA (by omega)) (k5 _ _ (neA (by omega)) (neA (by omega)) (neA (by omega)) (neA (by omega)) hTI), ⟨_, _, up _ _ (neA (by omega)) o5⟩, ?_, ?_⟩ t8 fun c o q e => ?_
  · obtain ⟨o, ho, r⟩ := i15
    exact ⟨o, up _ _ (neA (by omega)) ho, r⟩
  · obtain ⟨o, ho, r⟩ := i25
    exact ⟨o, up _ _ (neA (by omega)) ho, r⟩
  · unfold zp at q
    exact up _ _ (neA (by omega)) (k5 _ _ (neA (by omega)) (neA (by omega)) (neA (by omega)) (neA (by omega)) e)

/-- no pair left: both are through -/
theorem zipT_end {z l1 l2 : Nat} {k : Nat} {xs : Array Value} {Q : Option Value → Shared → Prop} (hh : A.handled = none) (hz : ZipAt s.heap z l1 l2 .none k) (n1 : ¬ zp z l1) (h1 : IsTup s.heap l1 xs) (hx : xs[k]? = none)
    (hQ : ∀ h', (∀ (c : Nat) o, ¬ zp z c → s.heap.get? c = some o → h'.get? c = some o) → Q none { s with heap := h' }) : wpAny (model prog w) A (pyNext (.ref (z + 4))) Q E s := by
  obtain ⟨hr, hTI, ⟨a, b, hTO⟩, i1, i2⟩ := hz
  have hT : s.TypeIs (.ref (z + 4)) "zip" := ⟨_, hr, rfl⟩
  have d1 : l1 ≠ z ∧ l1 ≠ z + 1 ∧ l1 ≠ z + 2 ∧ l1 ≠ z + 3 ∧ l1 ≠ z + 4 := by unfold zp at n1; omega
  unfold pyNext
  refine wpAny_bind (wpAny_attempt (wpAny_callSpecial?_slot (name := Str.ofString "__next__") hT F.slot_zip_next (wpAny_call_entry F.slot_zip_next hT F.entry_zip_next ?_ (F.args_zip_next_1 _))))
  show wpAny _ _ (field (.ref (z + 4)) 2 >>= _) _ _ _
  refine wpAny_bind (wpAny_field hr rfl (x := .bool false) rfl ?_)
  show wpAny _ _ (field (.ref (z + 4)) 3 >>= _) _ _ _
  refine wpAny_bind (wpAny_field hr rfl (x := .ref (z + 2)) rfl (wpAny_bind (wpAny_seqItems hTI rfl ?_)))
  show wpAny _ _ (Builtin.SmallTypes.ownedTupleIsFree (.ref (z + 4)) >>= _) _ _ _
  refine wpAny_bind ?_
  unfold Builtin.SmallTypes.ownedTupleIsFree
  refine wpAny_bind (wpAny_field hr rfl (x := .none) rfl (wpAny_pure ?_))
  simp only [if_true]
  refine wpAny_bind (wpAny_rule (wpAny_bind (wpAny_field hr rfl (x := .ref (z + 3)) rfl (wpAny_bind (wpAny_setField_rec hr (by simp) fun u1 r1 e1 => wpAny_bind ?_)))))
  simp only [List.zipIdx_cons, List.zipIdx_nil, List.forIn_cons, List.forIn_nil]
  refine wpAny_bind (wpAny_bind (wpAny_onRaise ?_))
  show wpAny _ _ (Builtin.SmallTypes.nextOf (.ref z) >>= _) _ _ _
  refine wpAny_bind (nextOf_tup_end (s := { s with heap := u1 }) hh (tupIter_but i1 e1 (neA (by omega))) (isTup_but h1 e1 (neA (by omega))) hx fun u2 e e2 he => ?_)
  obtain ⟨oe, hoe, hce⟩ := he
  have r2 : IsZip u2 (z + 4) (z + 2) (z + 3) .ellipsis := e2 _ _ (neA (by omega)) r1
  have hez : e ≠ z + 4 := fun q => by subst q; rw [r2] at hoe; cases hoe; simp at hce
  refine wpAny_setField_rec r2 (by simp) fun u3 _ e3 => ?_
  refine wpAny_bind (wpAny_isInstance (T := "StopIteration") (b := true) ⟨oe, (e3.2 _ hez).trans hoe, hce⟩ isSubtype_stop ?_)
  refine wpAny_pure (hQ _ fun c o q e => ?_)
  unfold zp at q
  exact (e3.2 _ (neA (by omega))).trans (e2 _ _ (neA (by omega)) ((e1.2 _ (neA (by omega))).trans e))

abbrev zT1 (h : Heap) (l1 : Nat) : Heap := h.push { cls := .type "tuple_iterator", data := .fields #[.ref l1, .int 0 0] }
abbrev zT2 (h : Heap) (l1 l2 : Nat) : Heap := (zT1 h l1).push { cls := .type "tuple_iterator", data := .fields #[.ref l2, .int 0 0] }
abbrev zT3 (h : Heap) (l1 l2 : Nat) : Heap := (zT2 h l1 l2).push { cls := .type "tuple", data := .seq #[.ref h.objs.size, .ref (zT1 h l1).objs.size] }
abbrev zT4 (h : Heap) (l1 l2 : Nat) : Heap := (zT3 h l1 l2).push { cls := .type "tuple", data := .seq #[.none, .none] }
abbrev zT5 (h : Heap) (l1 l2 : Nat) : Heap := (zT4 h l1 l2).push { cls := .type "zip", data := .fields #[.none, .bool false, .bool false, .ref (zT2 h l1 l2).objs.size, .ref (zT3 h l1 l2).objs.size] }
theorem zipT_new (l1 l2 : Nat) (xs ys : Array Value) :
    Meets (Builtin.«zip.__new__» ⟨[.type "zip", .ref l1, .ref l2], []⟩) (fun _ R s => IsTup s.heap l1 xs ∧ IsTup s.heap l2 ys ∧
      ((∀ h', ZipAt h' s.heap.objs.size l1 l2 .none 0 → (∀ (c : Nat) o, s.heap.get? c = some o → h'.get? c = some o) → R (.ok (.ret (.ref (s.heap.objs.size + 4)))) { s with heap := h' }))) :=
  .of_wp fun prog w A R s h => by
    obtain ⟨hp, g, d, tk, os⟩ := s; obtain ⟨hl1, hl2, h⟩ := h
    have hsub := sub_zip
    have hL1 : IsTup (Shared.heap ⟨hp, g, d, tk, os⟩) l1 xs := hl1
    have hL2 : IsTup (Shared.heap ⟨hp.push { cls := .type "tuple_iterator", data := .fields #[.ref l1, .int 0 0] }, g, d, tk, os⟩) l2 ys := by
      obtain ⟨o, ho, r⟩ := hl2
      exact ⟨o, Heap.get?_push_of_some _ ho, r⟩
    wp_walk using iter_tuple hL1, iter_tuple hL2
    have z1 : (hp.push { cls := .type "tuple_iterator", data := .fields #[.ref l1, .int 0 0] }).objs.size = hp.objs.size + 1 := Heap.size_push ..
    refine ⟨_, rfl, ?_⟩
    show R (.ok (.ret (.ref (zT4 hp l1 l2).objs.size))) ⟨zT5 hp l1 l2, g, d, tk, os⟩
    have z2 : (zT2 hp l1 l2).objs.size = hp.objs.size + 2 := by rw [Heap.size_push, z1]
    have z3 : (zT3 hp l1 l2).objs.size = hp.objs.size + 3 := by rw [Heap.size_push, z2]
    have z4 : (zT4 hp l1 l2).objs.size = hp.objs.size + 4 := by rw [Heap.size_push, z3]
    rw [z4]
    have g5 : (zT5 hp l1 l2).get? (zT4 hp l1 l2).objs.size = some _ := Heap.get?_push_size _ rfl
    have g4 : (zT5 hp l1 l2).get? (zT3 hp l1 l2).objs.size = some _ := Heap.get?_push_of_some _ (Heap.get?_push_size _ rfl)
    have g3 : (zT5 hp l1 l2).get? (zT2 hp l1 l2).objs.size = some _ := Heap.get?_push_of_some _ (Heap.get?_push_of_some _ (Heap.get?_push_size _ rfl))
    have g2 : (zT5 hp l1 l2).get? (zT1 hp l1).objs.size = some _ := Heap.get?_push_of_some _ (Heap.get?_push_of_some _ (Heap.get?_push_of_some _ (Heap.get?_push_size _ rfl)))
    have g1 : (zT5 hp l1 l2).get? hp.objs.size = some _ := Heap.get?_push_of_some _ (Heap.get?_push_of_some _ (Heap.get?_push_of_some _ (Heap.get?_push_of_some _ (Heap.get?_push_size _ rfl))))
    rw [z2, z3, z4] at g5
    rw [z1, z2] at g3
    rw [z3] at g4
    rw [z1] at g2
    exact h (zT5 hp l1 l2) ⟨g5, g3, ⟨_, _, g4⟩, ⟨_, g1, rfl, rfl⟩, ⟨_, g2, rfl, rfl⟩⟩ fun c o x => Heap.get?_push_of_some _ (Heap.get?_push_of_some _ (Heap.get?_push_of_some _ (Heap.get?_push_of_some _ (Heap.get?_push_of_some _ x))))

theorem call_zipT {l1 l2 : Nat} {xs ys : Array Value} {Q : Value → Shared → Prop} (h1 : IsTup s.heap l1 xs) (h2 : IsTup s.heap l2 ys)
    (h : ∀ h', ZipAt h' s.heap.objs.size l1 l2 .none 0 → (∀ (c : Nat) o, s.heap.get? c = some o → h'.get? c = some o) → Q (.ref (s.heap.objs.size + 4)) { s with heap := h' }) :
    wpAny (model prog w) A (call (.type "zip") [.ref l1, .ref l2]) Q E s := by
  refine callType_new F.called_zip (by decide) (F.typeCall_zip_2 _ _) (F.newCall_zip_2 _ _) (fun obj => F.args_object_init_3 obj _ _) F.entry_zip_new (zipT_new l1 l2 xs ys) ⟨h1, h2, fun h' hz hk => ?_⟩
  exact ⟨⟨_, hz.zrec, rfl⟩, h h' hz hk⟩
end
-- part L19
section
variable {g : Gl} {sc : Scope} {n : Nat} {σ σ₁ σ₂ σ' τ σc : Sg} {μ μ₁ μ₂ μ₃ μ' : Mu} {c : Cx}

/-- some foreign places change -/
theorem MemOk.places {h h' : Heap} {I : Imm} {P : Addr → Prop} (M : MemOk h ⟨I, μ⟩) (hP : ∀ a, P a → I a = none ∧ μ a = none) (hs : ∀ b o, ¬ P b → h.get? b = some o → h'.get? b = some o) : MemOk h' ⟨I, μ⟩ := by
  refine ⟨fun b o e => hs b o (fun q => ?_) (M.imm b o e), fun b ds e => ?_, M.apart⟩
  · have e : I b = some o := e
    rw [(hP b q).1] at e; cases e
  · obtain ⟨vs, ⟨m, hm⟩, r⟩ := M.mu b ds e
    exact ⟨vs, ⟨m, hs b _ (fun q => by have e : μ b = some ds := e; rw [(hP b q).2] at e; cases e) hm⟩, r⟩
theorem TrF.places {P : Addr → Prop} {s : Shared} {I : Imm} {h' : Heap} {tk : Nat} (M : MemOk s.heap ⟨I, μ⟩) (hP : ∀ a, P a → I a = none ∧ μ a = none) (hs : ∀ b o, ¬ P b → s.heap.get? b = some o → h'.get? b = some o) (hl : ∀ a, P a → h'.get? a ≠ none) :
    TrF P s ⟨I, μ⟩ { s with heap := h', toks := tk } ⟨I, μ⟩ := by
  refine ⟨⟨_, _, rfl⟩, fun b o e _ q => hs b o q e, fun b e => ?_, fun _ _ e => e, fun b e => .inl e, fun b e => .inl e, M.places hP hs⟩
  by_cases z : P b
  · exact hl b z
  · cases q : s.heap.get? b with
    | none => exact absurd q e
    | some o => show h'.get? b ≠ none; rw [hs b o z q]; simp
theorem FrOk.places {h h' : Heap} {I : Imm} {P : Addr → Prop} (F : FrOk g c σ h ⟨I, μ⟩) (ha : ∀ a, P a → ¬ c.own a) (h0 : ∀ a, P a → c.h₀.get? a = none) (hs : ∀ b o, ¬ P b → h.get? b = some o → h'.get? b = some o) : FrOk g c σ h' ⟨I, μ⟩ := by
  have k : ∀ b, c.own b → ∀ o, h.get? b = some o → h'.get? b = some o := fun b hb o e => hs b o (fun q => ha b q hb) e
  refine { F with fr := ?_, loc := ?_, cell := fun x b hb => ?_, vars := fun x d e => ?_ }
  · obtain ⟨m, fr⟩ := F.fr
    exact ⟨m, fr.ns.at' fun o e => k _ (.inl rfl) o e, fun b o e => hs b o (fun q => by rw [h0 b q] at e; cases e) (fr.keep b o e), fr.above⟩
  · obtain ⟨m, hn⟩ := F.loc
    exact ⟨m, hn.at' fun o e => k _ (.inr (.inl rfl)) o e⟩
  · obtain ⟨⟨v, o, ho, hd⟩, r⟩ := F.cell x b hb
    exact ⟨⟨v, o, k b (.inr (.inr ⟨x, hb⟩)) o ho, hd⟩, r⟩
  · obtain ⟨v, hh, r⟩ := F.vars x d e
    exact ⟨v, hh.keep (fun b hb o ho => k b (by rcases hb with h | h; exact .inr (.inl h); exact .inr (.inr h)) o ho), r⟩
theorem FrOk.immPut {h : Heap} {I : Imm} {T : Addr} {o : Obj} (F : FrOk g c σ h ⟨I, μ⟩) (hT : ¬ c.own T) (hI : I T = none) : FrOk g c σ h ⟨I.put T o, μ⟩ := by
  refine { F with ownI := fun a ha => ?_, vars := fun x d e => ?_, half := F.half.mono (Imm.put_sub hI) }
  · have : a ≠ T := fun q => hT (q ▸ ha)
    exact ⟨by simpa [Imm.put, this] using (F.ownI a ha).1, (F.ownI a ha).2⟩
  · obtain ⟨v, hh, r⟩ := F.vars x d e
    exact ⟨v, hh, r.mono (Imm.put_sub hI)⟩

theorem call_typ_k {x : Str} {p pos : Pos} {e : Expr} {es : List Expr} {id : String} {ds : List D} (h1 : nsIn g.K mainGlobals x = some none) (h2 : bootBuiltins x = some (.type id)) (h3 : x ≠ "__name__") (hx : sc.names.lookup x = some .globalImplicit)
    (ha : EvL g sc n σ μ pos (e :: es) ds μ₁) (hd : (x == ("__debug__" : Str)) = false)
    (he : ∀ env, starEach (e :: es) env = (false, eval e env) :: starEach es env) (hp : ∀ env, (backTo pos (starEach es env)).any (·.1) = false) (hsc : c.ev.scope = sc) (R : Room c.A n) {s : Shared} {I : Imm} (F : FrOk g c σ s.heap ⟨I, μ⟩) (M : MemOk s.heap ⟨I, μ⟩) {Q E : Value → Shared → Prop}
    (k : ∀ vs s' I', TrF NoP s ⟨I, μ⟩ s' ⟨I', μ₁⟩ → Reps I' vs ds → wpAny (model g.prog g.w) c.A (PySem.call (.type id) vs) Q E s') : wpAny (model g.prog g.w) c.A (eval (.Call (.Name x p) (e :: es) [] pos) c.ev) Q E s := by
  obtain ⟨m, fr⟩ := F.fr
  have G := F.top.g.keeps fr.keep
  have B := F.top.b.keeps fr.keep
  have hx' : c.ev.kindOf x = some .globalImplicit := by unfold Env.kindOf; rw [hsc]; exact hx
  refine Call_Name rfl ?_
  refine Name_function_global F.ek hx' (loadGlobal_builtin (env := c.ev) (by rw [F.eg]; exact G) (mg_none_of F.kin F.top.g h1) (by rw [F.eb]; exact B) ((F.top.builtins x h3).trans h2) ?_) hd
  exact PyProof.Rows.callWith_type1 (ha c hsc R s I F M _ _ fun vs s₁ I₁ T₁ r₁ => k vs s₁ I₁ T₁ r₁) (he _) (hp _)

def prs (as bs : List D) : List D := (as.zip bs).map fun (p : D × D) => D.tup [p.1, p.2]
theorem reps_tup {I : Imm} {v : Value} {ds : List D} (r : Rep I v (.tup ds)) : ∃ (a : Nat) (n : Nat) (vs : List Value), v = .ref a ∧ I a = some { cls := .type "tuple", data := .seq vs.toArray n } ∧ Reps I vs ds := by
  cases r with | tup h r => exact ⟨_, _, _, rfl, h, r⟩

theorem Ex1.forZip {zn : Str} {zpos tpos pos cp : Pos} {k0 : Nat} {e1 e2 t1 t2 : Expr} {body : List Stmt} {as bs : List D} (h1 : nsIn g.K mainGlobals zn = some none) (h2 : bootBuiltins zn = some (.type "zip")) (h3 : zn ≠ "__name__") (hx : sc.names.lookup zn = some .globalImplicit)
    (ha : EvL g sc n σ μ cp [e1, e2] [.tup as, .tup bs] μ₁) (hd : (zn == ("__debug__" : Str)) = false) (he : ∀ env, starEach [e1, e2] env = (false, eval e1 env) :: starEach [e2] env) (hp : ∀ env, (backTo cp (starEach [e2] env)).any (·.1) = false)
    (hlen : as.length = bs.length) (hr : ForRuns g sc n (.Tuple [t1, t2] k0 tpos) body (prs as bs) σ μ₁ .next σ' μ')
    (hs : ∀ env x, foldedSetIterable (.Call (.Name zn zpos) [e1, e2] [] cp) env x = pure x) :
    Ex1 g sc n σ μ (.For (.Tuple [t1, t2] k0 tpos) (.Call (.Name zn zpos) [e1, e2] [] cp) body [] pos) .next σ' μ' := by
  intro c hsc R s I F M Q E k
  refine wpAny_For (call_typ_k h1 h2 h3 hx ha hd he hp hsc R F M fun vs s₁ I₁ T₁ r₁ => ?_) (hs _)
  obtain ⟨va, vb, rfl, ra, rb⟩ := r₁.two
  obtain ⟨l1, n1, xs, rfl, il1, rx⟩ := reps_tup ra
  obtain ⟨l2, n2, ys, rfl, il2, ry⟩ := reps_tup rb
  have tup1 : ∀ {h : Heap}, h.get? l1 = some { cls := .type "tuple", data := .seq xs.toArray n1 } → IsTup h l1 xs.toArray := fun e => ⟨_, e, rfl, _, rfl⟩
  have tup2 : ∀ {h : Heap}, h.get? l2 = some { cls := .type "tuple", data := .seq ys.toArray n2 } → IsTup h l2 ys.toArray := fun e => ⟨_, e, rfl, _, rfl⟩
  refine call_zipT (tup1 (T₁.mem.imm _ _ il1)) (tup2 (T₁.mem.imm _ _ il2)) fun h₂ hz₂ hk₂ => wpAny_pyIter_zip hz₂.zrec ?_
  have F₁ := F.tr T₁
  have freshz : ∀ a : Nat, zp s₁.heap.objs.size a → s₁.heap.get? a = none := fun a hq => Heap.get?_none_of_le (by unfold zp at hq; show s₁.heap.objs.size ≤ a; omega)
  have zf : ∀ a : Nat, zp s₁.heap.objs.size a → c.h₀.get? a = none ∧ ¬ c.own a := fun a hq => F₁.new0 (freshz a hq)
  have zm : ∀ a : Nat, zp s₁.heap.objs.size a → I₁ a = none ∧ μ₁ a = none := fun a hq => T₁.mem.fresh (freshz a hq)
  have T₂ : TrF c.own s₁ ⟨I₁, μ₁⟩ { s₁ with heap := h₂ } ⟨I₁, μ₁⟩ := TrF.grow T₁.mem hk₂ (k := s₁.toks)
  have F₂ : FrOk g c σ h₂ ⟨I₁, μ₁⟩ := F₁.grow T₁.mem hk₂ (k := s₁.toks)
  generalize hz : s₁.heap.objs.size = z at *
  refine codeAny_forLoop_any (fun m s' => ∃ I' i σc μc, m = as.length - i ∧ FrOk g c σc s'.heap ⟨I', μc⟩ ∧ TrF (fun b => c.own b ∨ zp z b) { s₁ with heap := h₂ } ⟨I₁, μ₁⟩ s' ⟨I', μc⟩ ∧ ZipAt s'.heap z l1 l2 .none i ∧ (∀ a : Nat, zp z a → I' a = none ∧ μc a = none) ∧
      ForRuns g sc n (.Tuple [t1, t2] k0 tpos) body ((prs as bs).drop i) σc μc .next σ' μ') ?_ as.length
    ⟨I₁, 0, σ, μ₁, by simp, F₂, TrF.refl T₂.mem, hz₂, zm, hr⟩
  rintro m s₃ ⟨I₃, i, σ₃, μ₃, rfl, F₃, T₃, hz₃, zm₃, hr₃⟩
  have il1' := T₃.imm _ _ il1
  have il2' := T₃.imm _ _ il2
  have nz1 : ¬ zp z l1 := fun q => by have e : I₃ l1 = _ := il1'; rw [(zm₃ l1 q).1] at e; cases e
  have nz2 : ¬ zp z l2 := fun q => by have e : I₃ l2 = _ := il2'; rw [(zm₃ l2 q).1] at e; cases e
  have whole : ∀ {s' : Shared} {I' : Imm} {μc : Mu}, TrF (fun b => c.own b ∨ zp z b) { s₁ with heap := h₂ } ⟨I₁, μ₁⟩ s' ⟨I', μc⟩ → TrF c.own s ⟨I, μ⟩ s' ⟨I', μc⟩ := fun T => by
    refine TrF.trans T₁.up (T₂.behind (fun a ha => ?_) T)
    rcases ha with h | h
    · exact .inl h
    · exact .inr (freshz a h)
  generalize hl : (prs as bs).drop i = l at hr₃
  cases hr₃ with
  | nil =>
    have hi : as.length ≤ i := by
      have := congrArg List.length hl
      simp only [prs, List.length_drop, List.length_map, List.length_zip, List.length_nil] at this
      omega
    have hxl := rx.length
    refine zipT_end F.handled hz₃ nz1 (tup1 (T₃.mem.imm _ _ il1')) (by simp; omega) fun h' hk' => wpAny_execs_nil ?_
    have T' := whole T₃
    have fr0 : ∀ a : Nat, zp z a → s.heap.get? a = none := fun a q => by
      cases e : s.heap.get? a with
      | none => rfl
      | some o => exact absurd (freshz a q) (T₁.live a (by rw [e]; simp))
    refine k _ { s₃ with heap := h' } I₃ (F₃.places (P := zp z) (fun a q => (zf a q).2) (fun a q => (zf a q).1) hk') ?_ .next
    refine ⟨?_, fun b o e m q => hk' b o (fun zq => by rw [fr0 b zq] at e; cases e) (T'.keep b o e m q), fun b e => ?_, T'.imm, T'.immNew, T'.muNew, T'.mem.places (P := zp z) zm₃ hk'⟩
    · obtain ⟨h, t, rfl⟩ := T'.same; exact ⟨_, _, rfl⟩
    · have l := T'.live b e
      cases q : s₃.heap.get? b with
      | none => exact absurd q l
      | some o => show h'.get? b ≠ none; rw [hk' b o (fun zq => e (fr0 b zq)) q]; simp
  | @step d0 ds0 _ σa σb τb _ _ μb _ _ hA hB hsub hrest =>
    obtain ⟨g1, g2⟩ := List.drop_eq_cons' hl
    have hi : i < as.length := by
      have := (List.getElem?_eq_some_iff.mp g1).1
      simp only [prs, List.length_map, List.length_zip] at this
      omega
    have ea : as[i]? = some as[i] := by simp
    have eb : bs[i]? = some bs[i] := by simp
    have ed : d0 = .tup [as[i], bs[i]] := by
      have ez : (as.zip bs)[i]? = some (as[i], bs[i]) := by rw [List.getElem?_zip_eq_some]; exact ⟨ea, eb⟩
      unfold prs at g1
      rw [List.getElem?_map, ez] at g1
      exact (Option.some.inj g1).symm
    obtain ⟨x, hx', rx'⟩ := (rx.mono T₃.imm).get i _ ea
    obtain ⟨y, hy', ry'⟩ := (ry.mono T₃.imm).get i _ eb
    refine zipT_item hz₃ nz1 nz2 (tup1 (T₃.mem.imm _ _ il1')) (tup2 (T₃.mem.imm _ _ il2')) (by simpa using hx') (by simpa using hy') fun h₄ hz₄ hp₄ hk₄ => ?_
    refine wpAny_letOwnedTupleGo_zip (s := { s₃ with heap := h₄ }) hz₄.zrec fun h₅ hr₅ hs₅ => ?_
    have Tfresh : s₃.heap.get? s₃.heap.objs.size = none := Heap.get_size _
    have Tn : ¬ zp z s₃.heap.objs.size := fun q => hz₃.live _ q Tfresh
    have hT5 : h₅.get? s₃.heap.objs.size = some { cls := .type "tuple", data := .seq [x, y].toArray } := (hs₅.2 _ (neA (fun q => Tn (by unfold zp; omega)))).trans hp₄
    have hk5 : ∀ b o, ¬ zp z b → s₃.heap.get? b = some o → h₅.get? b = some o := fun b o q e => (hs₅.2 b (neA (fun w => q (by unfold zp; omega)))).trans (hk₄ b o q e)
    have hz₅ : ZipAt h₅ z l1 l2 .none (i + 1) := by
      obtain ⟨_, b1, ⟨c1, c2, c3⟩, ⟨o1, d1, d1'⟩, ⟨o2, d2, d2'⟩⟩ := hz₄
      exact ⟨hr₅, (hs₅.2 _ (neA (by omega))).trans b1, ⟨c1, c2, (hs₅.2 _ (neA (by omega))).trans c3⟩, ⟨o1, (hs₅.2 _ (neA (by omega))).trans d1, d1'⟩, ⟨o2, (hs₅.2 _ (neA (by omega))).trans d2, d2'⟩⟩
    have Ti := T₃.mem.fresh Tfresh
    have Ta0 : TrF (zp z) s₃ ⟨I₃, μ₃⟩ { s₃ with heap := h₅ } ⟨I₃, μ₃⟩ := TrF.places (tk := s₃.toks) T₃.mem zm₃ hk5 hz₅.live
    have Ta := Ta0.fix Ti.1 Ti.2 Tfresh hT5
    have Fa : FrOk g c σ₃ h₅ ⟨I₃.put s₃.heap.objs.size { cls := .type "tuple", data := .seq [x, y].toArray }, μ₃⟩ := (F₃.places (P := zp z) (fun a q => (zf a q).2) (fun a q => (zf a q).1) hk5).immPut (F₃.new0 Tfresh).2 Ti.1
    have sub := Imm.put_sub (o := { cls := .type "tuple", data := .seq [x, y].toArray }) Ti.1
    have rv : Rep (I₃.put s₃.heap.objs.size { cls := .type "tuple", data := .seq [x, y].toArray }) (.ref s₃.heap.objs.size) d0 := by
      rw [ed]
      exact .tup (Imm.put_self ..) (.cons (rx'.mono sub) (.cons (ry'.mono sub) .nil))
    refine hA c hsc { s₃ with heap := h₅ } _ μ₃ _ Fa Ta.mem rv _ _ fun s₆ F₆ T₆' => ?_
    have T₆ := wrUp T₆'
    refine hB c hsc R s₆ _ F₆ T₆.mem _ _ fun f s₇ I₇ F₇ T₇ r₇ => ?_
    cases r₇
    have T67 := T₆.trans T₇
    have zm5 : ∀ a : Nat, zp z a → (I₃.put s₃.heap.objs.size { cls := .type "tuple", data := .seq [x, y].toArray }) a = none ∧ μ₃ a = none := fun a q => by
      have : a ≠ s₃.heap.objs.size := fun w => Tn (w ▸ q)
      exact ⟨by simpa [Imm.put, this] using (zm₃ a q).1, (zm₃ a q).2⟩
    refine ⟨as.length - (i + 1), by omega, I₇, i + 1, τb, μb, rfl, F₇.weak hsub, (T₃.trans (Ta.mono fun _ h => .inr h)).trans (T67.mono fun _ h => .inl h), hz₅.keep fun a q o e => T67.keep a o e (zm5 a q).2 (zf a q).2, fun a q => ⟨T67.immKeep (hz₅.live a q) (zm5 a q).1 (zm5 a q).2, T67.muKeep (hz₅.live a q) (zm5 a q).2⟩, ?_⟩
    rw [g2]; exact hrest

/-- a list at hand is forgotten -/
theorem ExS.dropMu {ss : List Stmt} {fl : Fl} {a : Addr} {ds : List D} (h : ExS g sc n σ μ ss fl σ' μ₁) (hm : μ₁ a = some ds) (hd : μ₁.del a = μ₂) : ExS g sc n σ μ ss fl σ' μ₂ := by
  subst hd
  intro c hsc R s I F M Q E k
  refine h c hsc R s I F M _ _ fun f s₁ I₁ F₁ T₁ r₁ => ?_
  obtain ⟨I₂, F₂, T₂, _⟩ := freeze (P := c.own) F₁ T₁.mem hm
  refine k f s₁ I₂ F₂ (T₁.trans T₂) ?_
  cases r₁ with
  | next => exact .next
  | ret r => exact .ret (r.mono T₂.imm)

/-! a def that gives back a list to be changed -/
def NewP (μ : Mu) (ds : List D) (v : Value) (_ : Imm) (μ' : Mu) : Prop := ∃ a, v = .ref a ∧ μ a = none ∧ μ' = μ.put a ds
theorem ExP.cons {st : Stmt} {ss : List Stmt} {P : Value → Imm → Mu → Prop} (h1 : Ex1 g sc n σ μ st .next σ₁ μ₁) (h2 : ExP g sc n σ₁ μ₁ ss P) : ExP g sc n σ μ (st :: ss) P := by
  intro c hsc R s I F M Q E k
  refine wpAny_execs_cons (h1 c hsc R s I F M _ _ fun f s₁ I₁ F₁ T₁ r₁ => ?_)
  cases r₁
  exact h2 c hsc R s₁ I₁ F₁ T₁.mem _ _ fun v s₂ I₂ μ₂ T₂ r₂ => k v s₂ I₂ μ₂ (T₁.trans T₂) r₂
theorem TrF.newMut {P : Addr → Prop} {s : Shared} {I : Imm} (M : MemOk s.heap ⟨I, μ⟩) {vs : List Value} {ds : List D} (r : Reps I vs ds) :
    TrF P s ⟨I, μ⟩ { s with heap := s.heap.push { cls := .type "list", data := .seq vs.toArray } } ⟨I, μ.put s.heap.objs.size ds⟩ := by
  have hk : ∀ b o, s.heap.get? b = some o → (s.heap.push { cls := .type "list", data := .seq vs.toArray }).get? b = some o := fun b o e => Heap.get?_push_of_some _ e
  have fr := M.fresh (Heap.get_size s.heap)
  refine ⟨⟨_, _, rfl⟩, fun b o e _ _ => hk b o e, fun b e => ?_, fun _ _ e => e, fun b e => .inl e, fun b e => ?_, ⟨fun b o e => hk b o (M.imm b o e), fun b es e => ?_, fun b e => ?_⟩⟩
  · cases q : s.heap.get? b with
    | none => exact absurd q e
    | some o' => show (s.heap.push _).get? b ≠ none; rw [hk b o' q]; simp
  · by_cases q : b = s.heap.objs.size
    · subst q; exact .inr (Heap.get_size _)
    · left; simpa [Mu.put, q] using e
  · by_cases q : b = s.heap.objs.size
    · subst q
      have e : μ.put s.heap.objs.size ds s.heap.objs.size = some es := e
      rw [Mu.put_self] at e; cases e
      exact ⟨vs, ⟨0, Heap.get?_push_size _ rfl⟩, r⟩
    · obtain ⟨ws, ⟨m, hm⟩, r⟩ := M.mu b es (by simpa [Mu.put, q] using e)
      exact ⟨ws, ⟨m, hk _ _ hm⟩, r⟩
  · by_cases q : b = s.heap.objs.size
    · subst q; exact fr.1
    · exact M.apart b (by simpa [Mu.put, q] using e)
theorem ExP.retList {es : List Expr} {lp pos : Pos} {ds : List D} {ss : List Stmt} (h : EvL g sc n σ μ lp es ds μ) (hsz : ds.length ≤ 1000) : ExP g sc n σ μ (.Return (some (.List es lp)) pos :: ss) (NewP μ ds) := by
  intro c hsc R s I F M Q E k
  refine wpAny_execs_cons (wpAny_Return_some (wpAny_List (h c hsc R s I F M _ _ fun vs s₁ I₁ T₁ r₁ => ⟨?_, ?_⟩)))
  · rw [sizeLine_eq, r₁.length]; omega
  · exact k _ _ I₁ _ (T₁.up.trans (TrF.newMut T₁.mem r₁)) ⟨_, rfl, (T₁.mem.fresh (Heap.get_size s₁.heap)).2, rfl⟩
/-- x = f(..), f giving back a new list -/
theorem ExS.newCall {x y : Str} {p py pos cp : Pos} {e : Expr} {es : List Expr} {f : Value} {as ds : List D} {ss : List Stmt} {fl : Fl} (h1 : nsIn g.K mainGlobals y = some (some f)) (h2 : keepIn g.K f = true) (hy : sc.names.lookup y = some .globalImplicit)
    (ha : EvL g sc n σ μ cp (e :: es) as μ₁) (hc : CallP g n μ₁ f as (NewP μ₁ ds)) (hx : sc.names.lookup x = some .local ∨ sc.names.lookup x = some .cell) (hd : (y == ("__debug__" : Str)) = false)
    (he : ∀ env, starEach (e :: es) env = (false, eval e env) :: starEach es env) (hp : ∀ env, (backTo cp (starEach es env)).any (·.1) = false)
    (h : ∀ a, μ₁ a = none → ExS g sc n (σ.put x (.mref a)) (μ₁.put a ds) ss fl σ₂ μ₂) : ExS g sc n σ μ (.Assign [.Name x p] (.Call (.Name y py) (e :: es) [] cp) pos :: ss) fl σ₂ μ₂ := by
  intro c hsc R s I F M Q E k
  refine wpAny_execs_cons (wpAny_Assign_Name ?_ rfl)
  obtain ⟨m, fr⟩ := F.fr
  have G := F.top.g.keeps fr.keep
  have hy' : c.ev.kindOf y = some .globalImplicit := by unfold Env.kindOf; rw [hsc]; exact hy
  refine Call_Name rfl (Name_function_global F.ek hy' (loadGlobal_global (env := c.ev) (by rw [F.eg]; exact G) (mg_of F.kin F.top.g h1) ?_) hd)
  refine callWith_K F.kin h2 (ha c hsc R s I F M _ _ fun vs s₁ I₁ T₁ r₁ => ⟨?_, ?_⟩) (he _) (hp _)
  · obtain ⟨m₁, fr₁⟩ := (F.tr T₁).fr
    exact F.kin.keeps fr₁.keep
  · refine hc c R σ s₁ I₁ (F.tr T₁) T₁.mem vs r₁ _ _ fun v s₂ I₂ μ₂' T₂ hP => ?_
    obtain ⟨a, rfl, ha0, rfl⟩ := hP
    have T := T₁.trans T₂
    refine store_name (F.tr T) T.mem (by unfold Env.kindOf; rw [hsc]; exact hx) (.mref _) fun s₃ F₃ T₃ => ?_
    exact h a ha0 c hsc R s₃ I₂ F₃ T₃.mem _ _ fun f s₄ I₄ F₄ T₄ r₄ => k f s₄ I₄ F₄ ((T.up.trans (wrUp T₃)).trans T₄) r₄
end
-- part L20
/-! what is drawn is not known beforehand: the rules once more, with «there is» -/
section
variable {g : Gl} {sc : Scope} {n : Nat} {σ σ₁ σ₂ σ' τ : Sg} {μ μ₁ μ₂ μ' : Mu}
def EvE (g : Gl) (sc : Scope) (n : Nat) (σ : Sg) (μ : Mu) (e : Expr) (Q : D → Mu → Prop) : Prop := ∃ d μ₁, Q d μ₁ ∧ EvS g sc n σ μ e d μ₁
def ExE (g : Gl) (sc : Scope) (n : Nat) (σ : Sg) (μ : Mu) (ss : List Stmt) (P : D → Mu → Prop) : Prop := ∃ d σ' μ', P d μ' ∧ ExS g sc n σ μ ss (.ret d) σ' μ'
def ExN (g : Gl) (sc : Scope) (n : Nat) (σ : Sg) (μ : Mu) (ss : List Stmt) (P : Sg → Mu → Prop) : Prop := ∃ σ' μ', P σ' μ' ∧ ExS g sc n σ μ ss .next σ' μ'
def CallE (g : Gl) (n : Nat) (μ : Mu) (f : Value) (ds : List D) (P : D → Mu → Prop) : Prop := ∃ d μ', P d μ' ∧ CallS g n μ f ds d μ'

theorem CallE.def_ {f : Addr} {oc : Value} {od : Option Addr} {osl : Array (Option Value)} {name qual : Str} {prms : Arguments} {body : List Stmt} {scope : Scope} {dV kV doc pm cdv ct : Value} {an : Option Addr} {xs : List Str} {ds : List D} {P : D → Mu → Prop}
    (hlook : g.K.lookup f = some ⟨oc, od, .func (fnX name qual prms body scope [] dV kV doc pm an cdv ct), osl⟩) (hcode : codeIn g.K cdv qual = true)
    (hbind : ∀ (s : Shared) (vs : List Value), g.K.In s.heap → vs.length = ds.length → BindsTo s (fnX name qual prms body scope [] dV kV doc pm an cdv ct) ⟨vs, []⟩ (xs.zip (vs ++ [])))
    (hlen : xs.length = ds.length) (hnd : xs.Nodup) (hkinds : ∀ x ∈ xs, scope.names.lookup x = some .local ∨ scope.names.lookup x = some .cell)
    (hb : ExE g scope n (xs.zip (ds ++ [])) μ body P)
    (hco : scope.isCoroutine = false) (hgen : scope.isGenerator = false) (hk : scope.kind = .function) : CallE g (n + 1) μ (.ref f) ds P := by
  obtain ⟨d, σ', μ', h1, h2⟩ := hb
  exact ⟨d, μ', h1, CallS.def_ (ex := []) (dex := []) hlook hcode hbind (fun _ => .nil) hlen hnd hkinds h2 hco hgen hk⟩
theorem ExE.cons {st : Stmt} {ss : List Stmt} {P : D → Mu → Prop} (h1 : Ex1 g sc n σ μ st .next σ₁ μ₁) (h2 : ExE g sc n σ₁ μ₁ ss P) : ExE g sc n σ μ (st :: ss) P := by
  obtain ⟨d, σ', μ', h3, h4⟩ := h2
  exact ⟨d, σ', μ', h3, ExS.cons h1 h4⟩
theorem ExE.asg {x : Str} {p pos : Pos} {e : Expr} {ss : List Stmt} {P : D → Mu → Prop} (Q : D → Mu → Prop) (hx : sc.names.lookup x = some .local ∨ sc.names.lookup x = some .cell) (hs : ∀ env, env.scope = sc → swapsWith e (some (.Name x p)) pos.line env = pure false)
    (he : EvE g sc n σ μ e Q) (h2 : ∀ d μ₁, Q d μ₁ → ExE g sc n (σ.put x d) μ₁ ss P) : ExE g sc n σ μ (.Assign [.Name x p] e pos :: ss) P := by
  obtain ⟨d, μ₁, h3, h4⟩ := he
  exact ExE.cons (xAssign h4 hx hs) (h2 d μ₁ h3)
theorem ExE.ofS {ss : List Stmt} {P : D → Mu → Prop} {d : D} (h : ExS g sc n σ μ ss (.ret d) σ' μ') (hP : P d μ') : ExE g sc n σ μ ss P := ⟨d, σ', μ', hP, h⟩
theorem ExE.strong {ss : List Stmt} {P : D → Mu → Prop} (τ : Sg) (h : ExE g sc n τ μ ss P) (hs : Sg.Sub τ σ) : ExE g sc n σ μ ss P := by
  obtain ⟨d, σ', μ', h3, h4⟩ := h
  exact ⟨d, σ', μ', h3, h4.strong hs⟩
theorem ExE.ifF {t : Expr} {b ss : List Stmt} {pos : Pos} {P : D → Mu → Prop} (ht : TsS g sc n σ μ t false μ₁) (hs : ExE g sc n σ μ₁ ss P) : ExE g sc n σ μ (.If t b [] pos :: ss) P :=
  ExE.cons (Ex1.if_ ht (fun e => by cases e) fun _ => ExS.nil) hs
theorem ExN.cons {st : Stmt} {ss : List Stmt} {P : Sg → Mu → Prop} (h1 : Ex1 g sc n σ μ st .next σ₁ μ₁) (h2 : ExN g sc n σ₁ μ₁ ss P) : ExN g sc n σ μ (st :: ss) P := by
  obtain ⟨σ', μ', h3, h4⟩ := h2
  exact ⟨σ', μ', h3, ExS.cons h1 h4⟩
theorem ExN.asg {x : Str} {p pos : Pos} {e : Expr} {ss : List Stmt} {P : Sg → Mu → Prop} (Q : D → Mu → Prop) (hx : sc.names.lookup x = some .local ∨ sc.names.lookup x = some .cell) (hs : ∀ env, env.scope = sc → swapsWith e (some (.Name x p)) pos.line env = pure false)
    (he : EvE g sc n σ μ e Q) (h2 : ∀ d μ₁, Q d μ₁ → ExN g sc n (σ.put x d) μ₁ ss P) : ExN g sc n σ μ (.Assign [.Name x p] e pos :: ss) P := by
  obtain ⟨d, μ₁, h3, h4⟩ := he
  exact ExN.cons (xAssign h4 hx hs) (h2 d μ₁ h3)
theorem ExN.nil {P : Sg → Mu → Prop} (h : P σ μ) : ExN g sc n σ μ [] P := ⟨σ, μ, h, ExS.nil⟩
theorem EvE.ofS {e : Expr} {d : D} {Q : D → Mu → Prop} (h : EvS g sc n σ μ e d μ₁) (hQ : Q d μ₁) : EvE g sc n σ μ e Q := ⟨d, μ₁, hQ, h⟩
/-- f(e), what e gives being drawn -/
theorem EvE.call1 {x : Str} {p pos : Pos} {e : Expr} {f : Value} {Q' : D → Mu → Prop} (Q : D → Mu → Prop) (hf : GName g x f) (hx : sc.names.lookup x = some .globalImplicit) (he : EvE g sc n σ μ e Q)
    (hc : ∀ d μ₁, Q d μ₁ → CallE g n μ₁ f [d] Q') (hd : (x == ("__debug__" : Str)) = false) (h1 : ∀ env, starEach [e] env = (false, eval e env) :: starEach [] env) (hp : ∀ env, (backTo pos (starEach [] env)).any (·.1) = false) : EvE g sc n σ μ (.Call (.Name x p) [e] [] pos) Q' := by
  obtain ⟨d, μ₁, h3, h4⟩ := he
  obtain ⟨d', μ₂, h5, h6⟩ := hc d μ₁ h3
  exact ⟨d', μ₂, h5, eCall hf hx (lCons h4 EvL.nil h1) h6 hd h1 hp⟩
/-- e + f, f drawn -/
theorem EvE.addR {l r : Expr} {pos : Pos} {b : Int} {Q' : D → Mu → Prop} (hl : EvS g sc n σ μ l (.int b) μ₁) (hr : EvE g sc n σ μ₁ r fun d μ₂ => ∃ i : Int, d = .int i ∧ Q' (.int (b + i)) μ₂) : EvE g sc n σ μ (.BinOp l .Add r pos) Q' := by
  obtain ⟨d, μ₂, ⟨i, rfl, h3⟩, h4⟩ := hr
  exact ⟨_, μ₂, h3, EvS.add hl h4⟩
theorem EvE.tup2 {e1 e2 : Expr} {k : Nat} {pos : Pos} {Q : D → Mu → Prop} (Q1 : D → Mu → Prop) (h1 : EvE g sc n σ μ e1 Q1) (h2 : ∀ d μ₁, Q1 d μ₁ → EvE g sc n σ μ₁ e2 fun d2 μ₂ => Q (.tup [d, d2]) μ₂)
    (hs1 : ∀ env, starEach [e1, e2] env = (false, eval e1 env) :: starEach [e2] env) (hs2 : ∀ env, starEach [e2] env = (false, eval e2 env) :: starEach [] env) : EvE g sc n σ μ (.Tuple [e1, e2] k pos) Q := by
  obtain ⟨d, μ₁, h3, h4⟩ := h1
  obtain ⟨d2, μ₂, h5, h6⟩ := h2 d μ₁ h3
  exact ⟨_, μ₂, h5, eTup (lCons h4 (lCons h6 EvL.nil hs2) hs1) (Nat.le_of_ble_eq_true rfl)⟩
theorem EvE.subC {l : Expr} {b : Int} {k : Nat} {cp pos : Pos} {Q : D → Mu → Prop} (h : EvE g sc n σ μ l fun d μ₁ => ∃ i : Int, d = .int i ∧ Q (.int (i - b)) μ₁) : EvE g sc n σ μ (.BinOp l .Sub (.Constant (.int b) k cp) pos) Q := by
  obtain ⟨d, μ₁, ⟨i, rfl, h1⟩, h2⟩ := h
  exact ⟨_, μ₁, h1, EvS.sub h2 EvS.int⟩
theorem EvE.eqC {l : Expr} {b : Int} {k : Nat} {cp pos : Pos} {Q : D → Mu → Prop} (h : EvE g sc n σ μ l fun d μ₁ => ∃ i : Int, d = .int i ∧ Q (.bool (i == b)) μ₁) : EvE g sc n σ μ (.Compare l [.Eq] [.Constant (.int b) k cp] pos) Q := by
  obtain ⟨d, μ₁, ⟨i, rfl, h1⟩, h2⟩ := h
  exact ⟨_, μ₁, h1, EvS.cmp h2 EvS.int cmp_eq⟩
theorem CallE.mono {f : Value} {ds : List D} {P Q : D → Mu → Prop} (h : CallE g n μ f ds P) (k : ∀ d μ', P d μ' → Q d μ') : CallE g n μ f ds Q := by
  obtain ⟨d, μ', h1, h2⟩ := h
  exact ⟨d, μ', k d μ' h1, h2⟩
theorem CallE.more {f : Value} {ds : List D} {P : D → Mu → Prop} {m : Nat} (h : CallE g n μ f ds P) (hl : n ≤ m) : CallE g m μ f ds P := by
  obtain ⟨d, μ', h1, h2⟩ := h
  exact ⟨d, μ', h1, h2.more hl⟩
/-- a call as an expression -/
theorem EvE.call {x : Str} {p pos : Pos} {e : Expr} {es : List Expr} {f : Value} {ds : List D} {P : D → Mu → Prop} (hf : GName g x f) (hx : sc.names.lookup x = some .globalImplicit) (ha : EvL g sc n σ μ pos (e :: es) ds μ₁) (hc : CallE g n μ₁ f ds P) (hd : (x == ("__debug__" : Str)) = false)
    (he : ∀ env, starEach (e :: es) env = (false, eval e env) :: starEach es env) (hp : ∀ env, (backTo pos (starEach es env)).any (·.1) = false) : EvE g sc n σ μ (.Call (.Name x p) (e :: es) [] pos) P := by
  obtain ⟨d, μ', h1, h2⟩ := hc
  exact ⟨d, μ', h1, eCall hf hx ha h2 hd he hp⟩
/-- a comprehension over a range, each element drawn -/
theorem EvE.draws {x : Str} {p : Pos} {scope : Scope} {elt iter : Expr} {epos : Pos} {Q' : D → Mu → Prop} (J : Mu → Prop) (P : D → Prop) (m0 : Nat) (hm0 : m0 ≤ 100) (hi : EvE g sc n σ μ iter fun d μ₁ => ∃ m : Nat, m ≤ m0 ∧ d = .rng 0 m ∧ J μ₁ ∧ ∀ (out : List D) (μ₂ : Mu), out.length = m → (∀ e ∈ out, P e) → J μ₂ → Q' (.lst out) μ₂)
    (hx : (relab scope sc).names.lookup x = some .local ∨ (relab scope sc).names.lookup x = some .cell) (hn : (compSg scope σ).lookup x = none)
    (N : CompNames scope sc) (hns : scope.names.lookup x = some .local ∨ scope.names.lookup x = some .cell) (hs : ∀ env x, foldedSetIterable iter env x = pure x)
    (hel : ∀ (d : D) (μ : Mu), J μ → EvE g (relab scope sc) n ((compSg scope σ).put x d) μ elt fun e μ' => P e ∧ J μ') : EvE g sc n σ μ (.ListComp elt [⟨.Name x p, iter, [], 0⟩] scope epos) Q' := by
  obtain ⟨d, μ₁, ⟨m, hm, rfl, hJ, hQ⟩, h4⟩ := hi
  have go : ∀ (ds : List D) (μ : Mu), J μ → ∃ out μ', out.length = ds.length ∧ (∀ e ∈ out, P e) ∧ J μ' ∧ C1 g (relab scope sc) n (.Name x p) [] elt ds (compSg scope σ) μ out (compSg scope σ) μ' := by
    intro ds
    induction ds with
    | nil => exact fun μ h => ⟨[], μ, rfl, fun e he => (by cases he), h, .nil⟩
    | cons d ds ih =>
      intro μ h
      obtain ⟨e, μ₂, ⟨h5, h6⟩, h7⟩ := hel d μ h
      obtain ⟨out, μ₃, h8, h9, h10, h11⟩ := ih μ₂ h6
      refine ⟨e :: out, μ₃, by simp [h8], fun e' he => ?_, h10, .take (AsN.name hx (.head _)) IfS.nil h7 (Sub.put hn) h11⟩
      rcases List.mem_cons.mp he with rfl | he
      · exact h5
      · exact h9 e' he
  obtain ⟨out, μ', h5, h6, h7, h8⟩ := go (rngItems 0 m) μ₁ hJ
  have hl : out.length = m := by rw [h5]; simp [rngItems]
  exact ⟨_, μ', hQ out μ' hl h6 h7, EvS.comp1 (compSg scope σ) h4 rfl h8 (by omega) (compSub_self _ _) N (fun y hy => by rw [List.mem_singleton.mp hy]; exact hns) (fun a b e => by cases e; omega) hs⟩

theorem xForE {tgt iter : Expr} {body ss : List Stmt} {pos : Pos} {d : D} {ds : List D} {P : D → Mu → Prop} (Inv : List D → List D → Sg → Mu → Prop) (σ₀ : Sg) (hi : EvS g sc n σ₀ μ iter d μ₁) (hd : d.items = some ds)
    (hsm : ∀ a m, d = .rng a m → -1000 ≤ a ∧ a ≤ 1000 ∧ m ≤ 1000) (hs : ∀ env x, foldedSetIterable iter env x = pure x)
    (hw : Sg.Sub σ₀ σ) (h0 : Inv [] ds σ₀ μ₁) (step : ∀ done d rest σ μ, Inv done (d :: rest) σ μ → ∃ σ₁, AsS g sc σ tgt d σ₁ ∧ ExN g sc n σ₁ μ body fun σ₂ μ₂ => ∃ τ, Sg.Sub τ σ₂ ∧ Inv (done ++ [d]) rest τ μ₂)
    (rest : ∀ σe μe, Inv ds [] σe μe → ExE g sc n σe μe ss P) : ExE g sc n σ μ (.For tgt iter body [] pos :: ss) P := by
  obtain ⟨σe, μe, h1, h2⟩ := forRuns_inv (g := g) (sc := sc) (n := n) (tgt := tgt) (body := body) Inv (fun done d rest σ μ h => by
    obtain ⟨σ₁, h3, σ₂, μ₂, ⟨τ, h5, h6⟩, h4⟩ := step done d rest σ μ h
    exact ⟨σ₁, σ₂, μ₂, τ, h3, h4, h5, h6⟩) ds [] σ₀ μ₁ h0
  obtain ⟨d', σ', μ', h3, h4⟩ := rest σe μe (by simpa using h2)
  exact ⟨d', σ', μ', h3, ExS.strong (ExS.cons (Ex1.for_ hi hd h1 hsm hs) h4) hw⟩
end
-- part L21
/-! calls whose gift is not known beforehand, not even before the place of a list at hand is chosen -/
section
variable {g : Gl} {sc : Scope} {n : Nat} {σ σ₁ σ₂ σ' τ : Sg} {μ μ₁ μ₂ μ' : Mu}
def GiveP (P : D → Mu → Prop) (v : Value) (I : Imm) (μ' : Mu) : Prop := ∃ d, P d μ' ∧ Rep I v d
def EvP (g : Gl) (sc : Scope) (n : Nat) (σ : Sg) (μ : Mu) (e : Expr) (P : D → Mu → Prop) : Prop :=
  ∀ (c : Cx), c.ev.scope = sc → Room c.A n → ∀ (s : Shared) (I : Imm), FrOk g c σ s.heap ⟨I, μ⟩ → MemOk s.heap ⟨I, μ⟩ → ∀ (Q E : Value → Shared → Prop),
    (∀ v s' I' d μ', P d μ' → TrF NoP s ⟨I, μ⟩ s' ⟨I', μ'⟩ → Rep I' v d → Q v s') → wpAny (model g.prog g.w) c.A (eval e c.ev) Q E s
def EvLP (g : Gl) (sc : Scope) (n : Nat) (σ : Sg) (μ : Mu) (pos : Pos) (es : List Expr) (P : List D → Mu → Prop) : Prop :=
  ∀ (c : Cx), c.ev.scope = sc → Room c.A n → ∀ (s : Shared) (I : Imm), FrOk g c σ s.heap ⟨I, μ⟩ → MemOk s.heap ⟨I, μ⟩ → ∀ (Q : List Value → Shared → Prop) (E : Value → Shared → Prop),
    (∀ vs s' I' ds μ', P ds μ' → TrF NoP s ⟨I, μ⟩ s' ⟨I', μ'⟩ → Reps I' vs ds → Q vs s') → wpAny (model g.prog g.w) c.A (spliced (backTo pos (starEach es c.ev))) Q E s
theorem CallP.more {f : Value} {ds : List D} {P : Value → Imm → Mu → Prop} {m : Nat} (h : CallP g n μ f ds P) (hl : n ≤ m) : CallP g m μ f ds P := fun c R => h c (R.less hl)
theorem EvP.call {x : Str} {p pos : Pos} {e : Expr} {es : List Expr} {f : Value} {ds : List D} {P : D → Mu → Prop} (h1 : nsIn g.K mainGlobals x = some (some f)) (h2 : keepIn g.K f = true) (hx : sc.names.lookup x = some .globalImplicit)
    (ha : EvL g sc n σ μ pos (e :: es) ds μ₁) (hc : CallP g n μ₁ f ds (GiveP P)) (hd : (x == ("__debug__" : Str)) = false)
    (he : ∀ env, starEach (e :: es) env = (false, eval e env) :: starEach es env) (hp : ∀ env, (backTo pos (starEach es env)).any (·.1) = false) : EvP g sc n σ μ (.Call (.Name x p) (e :: es) [] pos) P := by
  intro c hsc R s I F M Q E k
  obtain ⟨m, fr⟩ := F.fr
  have G := F.top.g.keeps fr.keep
  have hx' : c.ev.kindOf x = some .globalImplicit := by unfold Env.kindOf; rw [hsc]; exact hx
  refine Call_Name rfl (Name_function_global F.ek hx' (loadGlobal_global (env := c.ev) (by rw [F.eg]; exact G) (mg_of F.kin F.top.g h1) ?_) hd)
  refine callWith_K F.kin h2 (ha c hsc R s I F M _ _ fun vs s₁ I₁ T₁ r₁ => ⟨?_, ?_⟩) (he _) (hp _)
  · obtain ⟨m₁, fr₁⟩ := (F.tr T₁).fr
    exact F.kin.keeps fr₁.keep
  · refine hc c R σ s₁ I₁ (F.tr T₁) T₁.mem vs r₁ _ _ fun v s₂ I₂ μ₂' T₂ hP => ?_
    obtain ⟨d, hP, r⟩ := hP
    exact k v s₂ I₂ d μ₂' hP (T₁.trans T₂) r
theorem EvP.tup2 {e1 e2 : Expr} {k0 : Nat} {pos : Pos} {P : D → Mu → Prop} (P1 : D → Mu → Prop) (h1 : EvP g sc n σ μ e1 P1) (h2 : ∀ d μ₁, P1 d μ₁ → EvP g sc n σ μ₁ e2 fun d2 μ₂ => P (.tup [d, d2]) μ₂)
    (hs1 : ∀ env, starEach [e1, e2] env = (false, eval e1 env) :: starEach [e2] env) (hs2 : ∀ env, starEach [e2] env = (false, eval e2 env) :: starEach [] env) : EvP g sc n σ μ (.Tuple [e1, e2] k0 pos) P := by
  intro c hsc R s I F M Q E k
  refine wpAny_Tuple (wpAny_items_cons (h1 c hsc R s I F M _ _ fun v s₁ I₁ d μ₁ hp T₁ r₁ => wpAny_items_cons (h2 d μ₁ hp c hsc R s₁ I₁ (F.tr T₁) T₁.mem _ _ fun v2 s₂ I₂ d2 μ₂ hp2 T₂ r₂ => ?_) (hs2 _)) (hs1 _))
  refine (EvL.nil : EvL g sc n σ μ₂ pos [] [] μ₂) c hsc R s₂ I₂ ((F.tr T₁).tr T₂) T₂.mem _ _ fun vs s₃ I₃ T₃ r₃ => ?_
  cases r₃
  refine ⟨Nat.le_of_ble_eq_true rfl, ?_⟩
  have T := TrF.lay (P := NoP) T₃.mem (k := s₃.toks) (fun b o e => Heap.get?_push_of_some { cls := .type "tuple", data := .seq [v, v2].toArray } e) (Heap.get_size _) (Heap.get?_push_size _ rfl)
  exact k _ _ _ _ _ hp2 (((T₁.trans T₂).trans T₃).trans T) (.tup (Imm.put_self ..) (.cons (r₁.mono ((T₂.trans T₃).trans T).imm) (.cons (r₂.mono (T₃.trans T).imm) .nil)))
/-- x, y = e, what e gives being drawn -/
theorem ExS.asg2P {x y : Str} {px py tp pos : Pos} {k0 : Nat} {e : Expr} {ss : List Stmt} {fl : Fl} (P : D → Mu → Prop) (h : EvP g sc n σ μ e P) (hx : sc.names.lookup x = some .local) (hy : sc.names.lookup y = some .local)
    (hs : ∀ env, env.scope = sc → swapsWithSole [.Tuple [.Name x px, .Name y py] k0 tp] e pos.line env = pure false)
    (hw : ∀ env, env.scope = sc → swappedStores [.Tuple [.Name x px, .Name y py] k0 tp] e env = pure (some [x, y]))
    (hP : ∀ d μ₁, P d μ₁ → ∃ a b, d = .tup [a, b] ∧ ExS g sc n ((σ.put y b).put x a) μ₁ ss fl σ₂ μ₂) :
    ExS g sc n σ μ (.Assign [.Tuple [.Name x px, .Name y py] k0 tp] e pos :: ss) fl σ₂ μ₂ := by
  intro c hsc R s I F M Q E k
  refine wpAny_execs_cons (Assign_Tuple_swapped (h c hsc R s I F M _ _ fun v s₁ I₁ d μ₁ hp T₁ r₁ => ?_) (hs _ hsc) (hw _ hsc))
  obtain ⟨a, b, rfl, hrest⟩ := hP d μ₁ hp
  cases r₁ with
  | @tup ad n0 vs _ hI hr =>
  obtain ⟨va, vb, rfl, ra, rb⟩ := hr.two
  have hkx : c.ev.kindOf x = some .local ∨ c.ev.kindOf x = some .cell := by unfold Env.kindOf; rw [hsc]; exact .inl hx
  have hky : c.ev.kindOf y = some .local ∨ c.ev.kindOf y = some .cell := by unfold Env.kindOf; rw [hsc]; exact .inl hy
  refine unpackItems_tuple (items := #[va, vb]) F.handled ⟨_, T₁.mem.imm _ _ hI, rfl, _, rfl⟩ fun h' hk' => ?_
  have hk : ∀ b o, s₁.heap.get? b = some o → h'.get? b = some o := fun b o e => hk' b o (Nat.ne_of_lt (Heap.lt_size e)) e
  have T0 : TrF c.own s₁ ⟨I₁, μ₁⟩ { s₁ with heap := h' } ⟨I₁, μ₁⟩ := TrF.grow T₁.mem hk (k := s₁.toks)
  have F0 : FrOk g c σ h' ⟨I₁, μ₁⟩ := (F.tr T₁).grow T₁.mem hk (k := s₁.toks)
  refine wpAny_assignInOrder_more (wpAny_bindName (store_name (s := { s₁ with heap := h' }) F0 T0.mem hky rb fun s₂ F₂ T₂ => ?_))
  refine wpAny_assignInOrder_more (wpAny_bindName (store_name F₂ T₂.mem hkx ra fun s₃ F₃ T₃ => ?_))
  refine wpAny_assignInOrder_none ?_
  exact hrest c hsc R s₃ I₁ F₃ T₃.mem _ _ fun f s₄ I₄ F₄ T₄ r₄ => k f s₄ I₄ F₄ ((((T₁.up.trans T0).trans (wrUp T₂)).trans (wrUp T₃)).trans T₄) r₄
/-- a list made to be changed, what comes after it not known -/
theorem ExP.newList {x : Str} {p lp pos : Pos} {ss : List Stmt} {P : Value → Imm → Mu → Prop} (hx : sc.names.lookup x = some .local ∨ sc.names.lookup x = some .cell)
    (he : EvL g sc n σ μ lp [] [] μ) (h : ∀ a, μ a = none → ExP g sc n (σ.put x (.mref a)) (μ.put a []) ss P) : ExP g sc n σ μ (.Assign [.Name x p] (.List [] lp) pos :: ss) P := by
  intro c hsc R s I F M Q E k
  refine wpAny_execs_cons (wpAny_Assign_Name (wpAny_List (he c hsc R s I F M _ _ fun vs s₁ I₁ T₁ r₁ => ⟨?_, ?_⟩)) rfl)
  · rw [sizeLine_eq, r₁.length]; decide
  · have fr := T₁.mem.fresh (Heap.get_size s₁.heap)
    have T0 := (T₁.trans (TrF.newMut T₁.mem r₁))
    refine store_name (s := { s₁ with heap := s₁.heap.push { cls := .type "list", data := .seq vs.toArray } }) (F.tr T0) T0.mem (by unfold Env.kindOf; rw [hsc]; exact hx) (.mref _) fun s₂ F₂ T₂ => ?_
    exact h _ fr.2 c hsc R s₂ I₁ F₂ T₂.mem _ _ fun v s₃ I₃ μ₃ T₃ r₃ => k v s₃ I₃ μ₃ ((T0.up.trans (wrUp T₂)).trans T₃) r₃
theorem ExP.ofE {ss : List Stmt} {P : D → Mu → Prop} (h : ExE g sc n σ μ ss P) : ExP g sc n σ μ ss (GiveP P) := by
  obtain ⟨d, σ', μ', hp, h⟩ := h
  intro c hsc R s I F M Q E k
  refine h c hsc R s I F M _ _ fun f s₁ I₁ F₁ T₁ r₁ => ?_
  cases r₁ with
  | ret r => exact k _ s₁ I₁ μ' T₁ ⟨d, hp, r⟩
end
-- part L22
section
variable {g : Gl} {sc : Scope} {n : Nat} {σ σ₁ σ₂ σ' τ : Sg} {μ μ₁ μ₂ μ' : Mu}
/-- y = [elt for x in range(m)], each element drawn, stored in place -/
theorem ExN.draws {x y : Str} {p py pos : Pos} {scope : Scope} {elt iter : Expr} {epos : Pos} {ss : List Stmt} {R : Sg → Mu → Prop} (J : Mu → Prop) (P : D → Prop) (m : Nat) (hm : m ≤ 100) (hi : EvS g sc n σ μ iter (.rng 0 m) μ₁) (hJ : J μ₁)
    (hx : (relab scope sc).names.lookup x = some .local ∨ (relab scope sc).names.lookup x = some .cell) (hn : (compSg scope σ).lookup x = none)
    (N : CompNames scope sc) (hns : scope.names.lookup x = some .local ∨ scope.names.lookup x = some .cell) (hs : ∀ env x, foldedSetIterable iter env x = pure x) (hy : sc.names.lookup y = some .local)
    (hsw : ∀ env, env.scope = sc → swapsWith (.ListComp elt [⟨.Name x p, iter, [], 0⟩] scope epos) (some (.Name y py)) pos.line env = pure true)
    (hel : ∀ (d : D) (μ : Mu), J μ → EvE g (relab scope sc) n ((compSg scope σ).put x d) μ elt fun e μ' => P e ∧ J μ')
    (h : ∀ out μ₂, out.length = m → (∀ e ∈ out, P e) → J μ₂ → ExN g sc n (σ.put y (.lst out)) μ₂ ss R) : ExN g sc n σ μ (.Assign [.Name y py] (.ListComp elt [⟨.Name x p, iter, [], 0⟩] scope epos) pos :: ss) R := by
  have go : ∀ (ds : List D) (μ : Mu), J μ → ∃ out μ', out.length = ds.length ∧ (∀ e ∈ out, P e) ∧ J μ' ∧ C1 g (relab scope sc) n (.Name x p) [] elt ds (compSg scope σ) μ out (compSg scope σ) μ' := by
    intro ds
    induction ds with
    | nil => exact fun μ h => ⟨[], μ, rfl, fun e he => (by cases he), h, .nil⟩
    | cons d ds ih =>
      intro μ h
      obtain ⟨e, μ₂, ⟨h5, h6⟩, h7⟩ := hel d μ h
      obtain ⟨out, μ₃, h8, h9, h10, h11⟩ := ih μ₂ h6
      refine ⟨e :: out, μ₃, by simp [h8], fun e' he => ?_, h10, .take (AsN.name hx (.head _)) IfS.nil h7 (Sub.put hn) h11⟩
      rcases List.mem_cons.mp he with rfl | he
      · exact h5
      · exact h9 e' he
  obtain ⟨out, μ', h5, h6, h7, h8⟩ := go (rngItems 0 m) μ₁ hJ
  have hl : out.length = m := by rw [h5]; simp [rngItems]
  exact ExN.cons (Ex1.assignComp1 (compSg scope σ) hi rfl h8 (by omega) (compSub_self _ _) N (fun y hy => by rw [List.mem_singleton.mp hy]; exact hns) (fun a b e => by cases e; omega) hy hsw hs) (h out μ' hl h6 h7)
theorem xAppend {o e : Expr} {ap cp pos : Pos} {a : Addr} {ds : List D} {d : D} (ho : EvS g sc n σ μ o (.mref a) μ) (he : EvS g sc n σ μ e d μ₁) (hm0 : μ a ≠ none) (hm : μ₁ a = some ds) (hsz : ds.length ≤ 1000)
    (hbase : ∀ env, attributeBase o "append" env (eval o env) = eval o env) (htrees : ∀ env, backTo cp (starEach [e] env) = [(false, eval e env)])
    (hline : (ap.endLine == cp.line) = true) (hi : ∀ env, env.scope = sc → interactive env = false)
    (hs : ∀ env, swapsWith (.Call (.Attribute o "append" ap) [e] [] cp) none pos.line env = pure false) :
    Ex1 g sc n σ μ (.Expr (.Call (.Attribute o "append" ap) [e] [] cp) pos) .next σ (μ₁.put a (ds ++ [d])) := Ex1.append ho he hm0 hm hsz hbase htrees hline hi hs
end
-- part M1
abbrev Pt := Rat × Rat
def mid (p q : Pt) : Pt := ((p.1 + q.1) / 2, (p.2 + q.2) / 2)
def mids : List Pt → List Pt
  | a :: b :: r => mid a b :: mids (b :: r)
  | _ => []
theorem mids_length : ∀ c : List Pt, (mids c).length = c.length - 1
  | [] => rfl
  | [_] => rfl
  | a :: b :: r => by simp [mids, mids_length (b :: r)]
theorem mids_get : ∀ (c : List Pt) (i : Nat) (p q : Pt), c[i]? = some p → c[i + 1]? = some q → (mids c)[i]? = some (mid p q)
  | [], i, p, q, h, _ => by simp at h
  | [a], i, p, q, _, h => by simp at h
  | a :: b :: r, 0, p, q, h, h' => by simp at h h'; subst h h'; rfl
  | a :: b :: r, i + 1, p, q, h, h' => by
    simp only [mids, List.getElem?_cons_succ] at h h' ⊢
    exact mids_get (b :: r) i p q h h'
def rowsN : Nat → List Pt → List (List Pt)
  | 0, c => [c]
  | n + 1, c => c :: rowsN n (mids c)
def rowsOf (c : List Pt) : List (List Pt) := rowsN (c.length - 1) c
def fstP (c : List Pt) : Pt := c.headD (0, 0)
def lstP (c : List Pt) : Pt := c.getLastD (0, 0)
def lefts (c : List Pt) : List Pt := (rowsOf c).map fstP
def rights (c : List Pt) : List Pt := (rowsOf c).reverse.map lstP
def cut1 (ps : List (List Pt)) : List (List Pt) := ps.flatMap fun c => [lefts c, rights c]
def parts (c : List Pt) : Nat → List (List Pt)
  | 0 => [c]
  | d + 1 => cut1 (parts c d)

theorem rowsN_length : ∀ n c, (rowsN n c).length = n + 1
  | 0, _ => rfl
  | n + 1, c => by simp [rowsN, rowsN_length n]
theorem rowsN_head : ∀ n c, (rowsN n c).head? = some c
  | 0, _ => rfl
  | _ + 1, _ => rfl
theorem rowsN_len : ∀ n (c : List Pt), n + 1 ≤ c.length → ∀ r ∈ rowsN n c, 0 < r.length
  | 0, c, h, r, hr => by simp [rowsN] at hr; subst hr; omega
  | n + 1, c, h, r, hr => by
    simp only [rowsN, List.mem_cons] at hr
    rcases hr with rfl | hr
    · omega
    · exact rowsN_len n (mids c) (by rw [mids_length]; omega) r hr
theorem rowsN_last : ∀ n (c : List Pt), c.length = n + 1 → ∃ p, (rowsN n c).getLast? = some [p]
  | 0, c, h => by
    match c, h with
    | [p], _ => exact ⟨p, rfl⟩
  | n + 1, c, h => by
    obtain ⟨p, hp⟩ := rowsN_last n (mids c) (by rw [mids_length]; omega)
    refine ⟨p, ?_⟩
    simp only [rowsN, List.getLast?_cons, hp]; rfl
theorem fstP_mem {c : List Pt} (h : 0 < c.length) : fstP c ∈ c := by
  match c, h with
  | a :: r, _ => simp [fstP]
theorem lstP_mem {c : List Pt} (h : 0 < c.length) : lstP c ∈ c := by
  match c, h with
  | a :: r, _ => unfold lstP; rw [List.getLastD_cons]; exact List.getLastD_mem_cons

theorem lefts_length {c : List Pt} (h : 0 < c.length) : (lefts c).length = c.length := by
  unfold lefts rowsOf; rw [List.length_map, rowsN_length]; omega
theorem rights_length {c : List Pt} (h : 0 < c.length) : (rights c).length = c.length := by
  unfold rights rowsOf; rw [List.length_map, List.length_reverse, rowsN_length]; omega
theorem fstP_lefts {c : List Pt} : fstP (lefts c) = fstP c := by
  have := rowsN_head (c.length - 1) c
  show ((rowsN (c.length - 1) c).map fstP).headD _ = _
  match hq : rowsN (c.length - 1) c, this with
  | a :: r, h => simp at h; subst h; rfl
theorem lstP_rights {c : List Pt} : lstP (rights c) = lstP c := by
  have := rowsN_head (c.length - 1) c
  show ((rowsN (c.length - 1) c).reverse.map lstP).getLastD _ = _
  match hq : rowsN (c.length - 1) c, this with
  | a :: r, h => simp at h; subst h; simp
theorem ends_meet {c : List Pt} (h : 0 < c.length) : lstP (lefts c) = fstP (rights c) := by
  obtain ⟨p, hp⟩ := rowsN_last (c.length - 1) c (by omega)
  show ((rowsN (c.length - 1) c).map fstP).getLastD _ = ((rowsN (c.length - 1) c).reverse.map lstP).headD _
  generalize rowsN (c.length - 1) c = rs at hp
  have e : rs = rs.dropLast ++ [[p]] := by
    rw [List.getLast?_eq_some_iff] at hp
    obtain ⟨ys, rfl⟩ := hp
    simp
  rw [e]
  simp [fstP, lstP]

/-- what holds of two points holds of the middle -/
def Convex (P : Pt → Prop) : Prop := ∀ a b, P a → P b → P (mid a b)
theorem mids_all {P : Pt → Prop} (hP : Convex P) : ∀ c : List Pt, (∀ p ∈ c, P p) → ∀ p ∈ mids c, P p
  | [], _, p, hp => by cases hp
  | [_], _, p, hp => by cases hp
  | a :: b :: r, h, p, hp => by
    simp only [mids, List.mem_cons] at hp
    rcases hp with rfl | hp
    · exact hP _ _ (h a (by simp)) (h b (by simp))
    · exact mids_all hP (b :: r) (fun q hq => h q (by simp at hq ⊢; exact .inr hq)) p hp
theorem rows_all {P : Pt → Prop} (hP : Convex P) : ∀ n (c : List Pt), (∀ p ∈ c, P p) → ∀ r ∈ rowsN n c, ∀ p ∈ r, P p
  | 0, c, h, r, hr => by simp [rowsN] at hr; subst hr; exact h
  | n + 1, c, h, r, hr => by
    simp only [rowsN, List.mem_cons] at hr
    rcases hr with rfl | hr
    · exact h
    · exact rows_all hP n (mids c) (mids_all hP c h) r hr
theorem lefts_all {P : Pt → Prop} (hP : Convex P) {c : List Pt} (hc : 0 < c.length) (h : ∀ p ∈ c, P p) : ∀ p ∈ lefts c, P p := by
  intro p hp
  obtain ⟨r, hr, rfl⟩ := List.mem_map.mp hp
  exact rows_all hP _ c h r hr _ (fstP_mem (rowsN_len _ c (by omega) r hr))
theorem rights_all {P : Pt → Prop} (hP : Convex P) {c : List Pt} (hc : 0 < c.length) (h : ∀ p ∈ c, P p) : ∀ p ∈ rights c, P p := by
  intro p hp
  obtain ⟨r, hr, rfl⟩ := List.mem_map.mp hp
  rw [List.mem_reverse] at hr
  exact rows_all hP _ c h r hr _ (lstP_mem (rowsN_len _ c (by omega) r hr))
theorem cut1_all {P : Pt → Prop} (hP : Convex P) {ps : List (List Pt)} (hl : ∀ c ∈ ps, 0 < c.length) (h : ∀ c ∈ ps, ∀ p ∈ c, P p) : ∀ c ∈ cut1 ps, ∀ p ∈ c, P p := by
  intro c hc
  obtain ⟨b, hb, hc⟩ := List.mem_flatMap.mp hc
  simp only [List.mem_cons, List.not_mem_nil, or_false] at hc
  rcases hc with rfl | rfl
  · exact lefts_all hP (hl b hb) (h b hb)
  · exact rights_all hP (hl b hb) (h b hb)
theorem parts_len {c : List Pt} (hc : 0 < c.length) : ∀ d, ∀ b ∈ parts c d, b.length = c.length
  | 0, b, hb => by simp [parts] at hb; subst hb; rfl
  | d + 1, b, hb => by
    obtain ⟨a, ha, hb⟩ := List.mem_flatMap.mp hb
    have la := parts_len hc d a ha
    simp only [List.mem_cons, List.not_mem_nil, or_false] at hb
    rcases hb with rfl | rfl
    · rw [lefts_length (by omega), la]
    · rw [rights_length (by omega), la]
theorem parts_count (c : List Pt) : ∀ d, (parts c d).length = 2 ^ d
  | 0 => rfl
  | d + 1 => by
    show (cut1 (parts c d)).length = _
    have : ∀ ps : List (List Pt), (cut1 ps).length = ps.length * 2 := by
      intro ps
      induction ps with
      | nil => rfl
      | cons a r ih => simp only [cut1, List.flatMap_cons, List.length_append, List.length_cons, List.length_nil] at ih ⊢; omega
    rw [this, parts_count c d, Nat.pow_succ]
theorem parts_flat_len {c : List Pt} (hc : 0 < c.length) (d : Nat) : (parts c d).flatten.length = 2 ^ d * c.length := by
  have : ∀ ps : List (List Pt), (∀ b ∈ ps, b.length = c.length) → ps.flatten.length = ps.length * c.length := by
    intro ps h
    induction ps with
    | nil => simp
    | cons a r ih => rw [List.flatten_cons, List.length_append, ih (fun b hb => h b (by simp [hb])), h a (by simp), List.length_cons, Nat.succ_mul]; omega
  rw [this _ (parts_len hc d), parts_count]

/-- the ends -/
def ends (c : List Pt) (d : Nat) : List Pt := (parts c d).map fstP ++ [lstP c]
theorem firsts_grow {c : List Pt} {d : Nat} : ∀ p ∈ (parts c d).map fstP, p ∈ (parts c (d + 1)).map fstP := by
  intro p hp
  obtain ⟨b, hb, rfl⟩ := List.mem_map.mp hp
  exact List.mem_map.mpr ⟨lefts b, List.mem_flatMap.mpr ⟨b, hb, by simp⟩, fstP_lefts⟩
theorem ends_grow {c : List Pt} {d : Nat} : ∀ p ∈ ends c d, p ∈ ends c (d + 1) := by
  intro p hp
  rcases List.mem_append.mp hp with h | h
  · exact List.mem_append_left _ (firsts_grow p h)
  · exact List.mem_append_right _ h
theorem lasts_in {c : List Pt} (hc : 0 < c.length) : ∀ d, ∀ b ∈ parts c d, lstP b ∈ ends c d
  | 0, b, hb => by simp [parts] at hb; subst hb; simp [ends]
  | d + 1, b, hb => by
    obtain ⟨a, ha, hb⟩ := List.mem_flatMap.mp hb
    have la := parts_len hc d a ha
    simp only [List.mem_cons, List.not_mem_nil, or_false] at hb
    rcases hb with rfl | rfl
    · rw [ends_meet (by omega)]
      exact List.mem_append_left _ (List.mem_map.mpr ⟨rights a, List.mem_flatMap.mpr ⟨a, ha, by simp⟩, rfl⟩)
    · rw [lstP_rights]
      exact ends_grow _ (lasts_in hc d a ha)
theorem last_there {c : List Pt} : ∀ d, ∃ b ∈ parts c d, lstP b = lstP c
  | 0 => ⟨c, by simp [parts], rfl⟩
  | d + 1 => by
    obtain ⟨b, hb, e⟩ := last_there (c := c) d
    exact ⟨rights b, List.mem_flatMap.mpr ⟨b, hb, by simp⟩, by rw [lstP_rights, e]⟩
theorem ends_in {c : List Pt} (hc : 0 < c.length) {d : Nat} : ∀ p ∈ ends c d, p ∈ (parts c d).flatten := by
  intro p hp
  rcases List.mem_append.mp hp with h | h
  · obtain ⟨b, hb, rfl⟩ := List.mem_map.mp h
    exact List.mem_flatten.mpr ⟨b, hb, fstP_mem (by rw [parts_len hc d b hb]; exact hc)⟩
  · simp at h; subst h
    obtain ⟨b, hb, e⟩ := last_there (c := c) d
    rw [← e]
    exact List.mem_flatten.mpr ⟨b, hb, lstP_mem (by rw [parts_len hc d b hb]; exact hc)⟩

/-! boxes -/
structure Box where
  l : Rat
  t : Rat
  r : Rat
  b : Rat
structure IsBox (ps : List Pt) (B : Box) : Prop where
  l : B.l ∈ ps.map (·.1)
  t : B.t ∈ ps.map (·.2)
  r : B.r ∈ ps.map (·.1)
  b : B.b ∈ ps.map (·.2)
  all : ∀ p ∈ ps, B.l ≤ p.1 ∧ B.t ≤ p.2 ∧ p.1 ≤ B.r ∧ p.2 ≤ B.b
theorem min_ex : ∀ (xs : List Rat), xs ≠ [] → ∃ m ∈ xs, ∀ x ∈ xs, m ≤ x
  | [], h => absurd rfl h
  | [a], _ => ⟨a, by simp, by simp [Rat.le_refl]⟩
  | a :: b :: r, _ => by
    obtain ⟨m, hm, h⟩ := min_ex (b :: r) (by simp)
    rcases Rat.le_total (a := a) (b := m) with q | q
    · refine ⟨a, by simp, fun x hx => ?_⟩
      rcases List.mem_cons.mp hx with rfl | hx
      · exact Rat.le_refl
      · exact Rat.le_trans q (h x hx)
    · refine ⟨m, by simp at hm ⊢; exact .inr hm, fun x hx => ?_⟩
      rcases List.mem_cons.mp hx with rfl | hx
      · exact q
      · exact h x hx
theorem max_ex : ∀ (xs : List Rat), xs ≠ [] → ∃ m ∈ xs, ∀ x ∈ xs, x ≤ m
  | [], h => absurd rfl h
  | [a], _ => ⟨a, by simp, by simp [Rat.le_refl]⟩
  | a :: b :: r, _ => by
    obtain ⟨m, hm, h⟩ := max_ex (b :: r) (by simp)
    rcases Rat.le_total (a := a) (b := m) with q | q
    · refine ⟨m, by simp at hm ⊢; exact .inr hm, fun x hx => ?_⟩
      rcases List.mem_cons.mp hx with rfl | hx
      · exact q
      · exact h x hx
    · refine ⟨a, by simp, fun x hx => ?_⟩
      rcases List.mem_cons.mp hx with rfl | hx
      · exact Rat.le_refl
      · exact Rat.le_trans (h x hx) q
theorem box_ex (ps : List Pt) (h : ps ≠ []) : ∃ B, IsBox ps B := by
  have h1 : ps.map (·.1) ≠ [] := by simpa using h
  have h2 : ps.map (·.2) ≠ [] := by simpa using h
  obtain ⟨l, a1, a2⟩ := min_ex _ h1
  obtain ⟨t, b1, b2⟩ := min_ex _ h2
  obtain ⟨r, c1, c2⟩ := max_ex _ h1
  obtain ⟨b, d1, d2⟩ := max_ex _ h2
  exact ⟨⟨l, t, r, b⟩, a1, b1, c1, d1, fun p hp => ⟨a2 _ (List.mem_map.mpr ⟨p, hp, rfl⟩), b2 _ (List.mem_map.mpr ⟨p, hp, rfl⟩), c2 _ (List.mem_map.mpr ⟨p, hp, rfl⟩), d2 _ (List.mem_map.mpr ⟨p, hp, rfl⟩)⟩⟩
/-- one box lies in the other -/
def Box.In (A B : Box) : Prop := B.l ≤ A.l ∧ B.t ≤ A.t ∧ A.r ≤ B.r ∧ A.b ≤ B.b
theorem in_of_all {ps : List Pt} {A B : Box} (hA : IsBox ps A) (h : ∀ p ∈ ps, B.l ≤ p.1 ∧ B.t ≤ p.2 ∧ p.1 ≤ B.r ∧ p.2 ≤ B.b) : A.In B := by
  obtain ⟨p1, h1, e1⟩ := List.mem_map.mp hA.l
  obtain ⟨p2, h2, e2⟩ := List.mem_map.mp hA.t
  obtain ⟨p3, h3, e3⟩ := List.mem_map.mp hA.r
  obtain ⟨p4, h4, e4⟩ := List.mem_map.mp hA.b
  exact ⟨e1 ▸ (h p1 h1).1, e2 ▸ (h p2 h2).2.1, e3 ▸ (h p3 h3).2.2.1, e4 ▸ (h p4 h4).2.2.2⟩
theorem box_convex (B : Box) : Convex fun p => B.l ≤ p.1 ∧ B.t ≤ p.2 ∧ p.1 ≤ B.r ∧ p.2 ≤ B.b := by
  intro a b ⟨h1, h2, h3, h4⟩ ⟨k1, k2, k3, k4⟩
  unfold mid
  refine ⟨?_, ?_, ?_, ?_⟩ <;> grind
/-- halved once more the held one is no greater -/
theorem held_in {c : List Pt} (hc : 0 < c.length) {d : Nat} {A B : Box} (hA : IsBox (parts c (d + 1)).flatten A) (hB : IsBox (parts c d).flatten B) : A.In B := by
  refine in_of_all hA fun p hp => ?_
  obtain ⟨b, hb, hp⟩ := List.mem_flatten.mp hp
  exact cut1_all (box_convex B) (fun c' h => by rw [parts_len hc d c' h]; exact hc) (fun c' h p hp => hB.all p (List.mem_flatten.mpr ⟨c', h, hp⟩)) b hb p hp
theorem reached_in {c : List Pt} (hc : 0 < c.length) {d : Nat} {A B : Box} (hA : IsBox (ends c d) A) (hB : IsBox (parts c d).flatten B) : A.In B :=
  in_of_all hA fun p hp => hB.all p (ends_in hc p hp)
theorem reached_grow {c : List Pt} {d : Nat} {A B : Box} (hA : IsBox (ends c d) A) (hB : IsBox (ends c (d + 1)) B) : A.In B :=
  in_of_all hA fun p hp => hB.all p (ends_grow p hp)
-- part M2
abbrev IP := Int × Int
structure IBox where
  l : Int
  t : Int
  r : Int
  b : Int
structure IsIB (ps : List IP) (B : IBox) : Prop where
  l : B.l ∈ ps.map (·.1)
  t : B.t ∈ ps.map (·.2)
  r : B.r ∈ ps.map (·.1)
  b : B.b ∈ ps.map (·.2)
  all : ∀ p ∈ ps, B.l ≤ p.1 ∧ B.t ≤ p.2 ∧ p.1 ≤ B.r ∧ p.2 ≤ B.b
def IsO (ps : List IP) : Option IBox → Prop
  | none => ps = []
  | some B => IsIB ps B
theorem imin_ex : ∀ (xs : List Int), xs ≠ [] → ∃ m ∈ xs, ∀ x ∈ xs, m ≤ x
  | [], h => absurd rfl h
  | [a], _ => ⟨a, by simp, by simp⟩
  | a :: b :: r, _ => by
    obtain ⟨m, hm, h⟩ := imin_ex (b :: r) (by simp)
    rcases Int.le_total a m with q | q
    · refine ⟨a, by simp, fun x hx => ?_⟩
      rcases List.mem_cons.mp hx with rfl | hx
      · exact Int.le_refl _
      · exact Int.le_trans q (h x hx)
    · refine ⟨m, List.mem_cons_of_mem _ hm, fun x hx => ?_⟩
      rcases List.mem_cons.mp hx with rfl | hx
      · exact q
      · exact h x hx
theorem imax_ex : ∀ (xs : List Int), xs ≠ [] → ∃ m ∈ xs, ∀ x ∈ xs, x ≤ m
  | [], h => absurd rfl h
  | [a], _ => ⟨a, by simp, by simp⟩
  | a :: b :: r, _ => by
    obtain ⟨m, hm, h⟩ := imax_ex (b :: r) (by simp)
    rcases Int.le_total a m with q | q
    · refine ⟨m, List.mem_cons_of_mem _ hm, fun x hx => ?_⟩
      rcases List.mem_cons.mp hx with rfl | hx
      · exact q
      · exact h x hx
    · refine ⟨a, by simp, fun x hx => ?_⟩
      rcases List.mem_cons.mp hx with rfl | hx
      · exact Int.le_refl _
      · exact Int.le_trans (h x hx) q
theorem ibox_ex (ps : List IP) : ∃ o, IsO ps o := by
  by_cases h : ps = []
  · exact ⟨none, h⟩
  · have h1 : ps.map (·.1) ≠ [] := by simpa using h
    have h2 : ps.map (·.2) ≠ [] := by simpa using h
    obtain ⟨l, a1, a2⟩ := imin_ex _ h1
    obtain ⟨t, b1, b2⟩ := imin_ex _ h2
    obtain ⟨r, c1, c2⟩ := imax_ex _ h1
    obtain ⟨b, d1, d2⟩ := imax_ex _ h2
    exact ⟨some ⟨l, t, r, b⟩, a1, b1, c1, d1, fun p hp => ⟨a2 _ (List.mem_map.mpr ⟨p, hp, rfl⟩), b2 _ (List.mem_map.mpr ⟨p, hp, rfl⟩), c2 _ (List.mem_map.mpr ⟨p, hp, rfl⟩), d2 _ (List.mem_map.mpr ⟨p, hp, rfl⟩)⟩⟩
def joinB (a b : IBox) : IBox := ⟨min a.l b.l, min a.t b.t, max a.r b.r, max a.b b.b⟩
def joinO : Option IBox → Option IBox → Option IBox
  | none, o => o
  | some a, none => some a
  | some a, some b => some (joinB a b)
def commonO (a b : IBox) : Option IBox :=
  if max a.l b.l ≤ min a.r b.r ∧ max a.t b.t ≤ min a.b b.b then some ⟨max a.l b.l, max a.t b.t, min a.r b.r, min a.b b.b⟩ else none
def corners : Option IBox → List IP
  | none => []
  | some B => [(B.l, B.t), (B.r, B.b)]
theorem IsIB.valid {ps : List IP} {B : IBox} (h : IsIB ps B) : B.l ≤ B.r ∧ B.t ≤ B.b := by
  obtain ⟨p, hp, e⟩ := List.mem_map.mp h.l
  have := h.all p hp
  omega
theorem corner_is {B : IBox} (h : B.l ≤ B.r ∧ B.t ≤ B.b) : IsIB [(B.l, B.t), (B.r, B.b)] B := by
  refine ⟨by simp, by simp, by simp, by simp, fun p hp => ?_⟩
  simp only [List.mem_cons, List.not_mem_nil, or_false] at hp
  rcases hp with rfl | rfl <;> simp only <;> omega
theorem join_right {ps qs : List IP} {a b : Option IBox} (ha : IsO ps a) (hb : IsO qs b) : IsO (corners a ++ corners b) (joinO a b) := by
  cases a with
  | none =>
    cases b with
    | none => rfl
    | some B => exact corner_is (IsIB.valid hb)
  | some A =>
    cases b with
    | none => exact corner_is (IsIB.valid ha)
    | some B =>
      have va := IsIB.valid ha
      have vb := IsIB.valid hb
      have e1 : min A.l B.l = A.l ∨ min A.l B.l = B.l := by omega
      have e2 : min A.t B.t = A.t ∨ min A.t B.t = B.t := by omega
      have e3 : max A.r B.r = A.r ∨ max A.r B.r = B.r := by omega
      have e4 : max A.b B.b = A.b ∨ max A.b B.b = B.b := by omega
      refine ⟨?_, ?_, ?_, ?_, fun p hp => ?_⟩
      · show min A.l B.l ∈ _
        rcases e1 with e | e <;> rw [e] <;> simp [corners]
      · show min A.t B.t ∈ _
        rcases e2 with e | e <;> rw [e] <;> simp [corners]
      · show max A.r B.r ∈ _
        rcases e3 with e | e <;> rw [e] <;> simp [corners]
      · show max A.b B.b ∈ _
        rcases e4 with e | e <;> rw [e] <;> simp [corners]
      · simp only [corners, List.cons_append, List.nil_append, List.mem_cons, List.not_mem_nil, or_false] at hp
        show min A.l B.l ≤ p.1 ∧ min A.t B.t ≤ p.2 ∧ p.1 ≤ max A.r B.r ∧ p.2 ≤ max A.b B.b
        rcases hp with rfl | rfl | rfl | rfl <;> simp only <;> omega
def inB (p : IP) (B : IBox) : Bool := (decide (B.l ≤ p.1) && decide (p.1 ≤ B.r)) && (decide (B.t ≤ p.2) && decide (p.2 ≤ B.b))
theorem inB_iff {p : IP} {B : IBox} : inB p B = true ↔ B.l ≤ p.1 ∧ p.1 ≤ B.r ∧ B.t ≤ p.2 ∧ p.2 ≤ B.b := by
  unfold inB; simp only [Bool.and_eq_true, decide_eq_true_eq]; omega
def line : List Int := [-4, -3, -2, -1, 0, 1, 2, 3, 4]
def grid : List IP := line.flatMap fun x => line.map fun y => (x, y)
theorem mem_line {x : Int} (h : -4 ≤ x ∧ x ≤ 4) : x ∈ line := by
  have : x = -4 ∨ x = -3 ∨ x = -2 ∨ x = -1 ∨ x = 0 ∨ x = 1 ∨ x = 2 ∨ x = 3 ∨ x = 4 := by omega
  rcases this with rfl | rfl | rfl | rfl | rfl | rfl | rfl | rfl | rfl <;> decide
theorem mem_grid {p : IP} (h1 : -4 ≤ p.1 ∧ p.1 ≤ 4) (h2 : -4 ≤ p.2 ∧ p.2 ≤ 4) : p ∈ grid :=
  List.mem_flatMap.mpr ⟨p.1, mem_line h1, List.mem_map.mpr ⟨p.2, mem_line h2, rfl⟩⟩
def Near (p : IP) : Prop := -4 ≤ p.1 ∧ p.1 ≤ 4 ∧ -4 ≤ p.2 ∧ p.2 ≤ 4
theorem IsIB.near {ps : List IP} {B : IBox} (h : IsIB ps B) (hn : ∀ p ∈ ps, Near p) : -4 ≤ B.l ∧ B.r ≤ 4 ∧ -4 ≤ B.t ∧ B.b ≤ 4 := by
  obtain ⟨p1, a1, e1⟩ := List.mem_map.mp h.l
  obtain ⟨p2, a2, e2⟩ := List.mem_map.mp h.t
  obtain ⟨p3, a3, e3⟩ := List.mem_map.mp h.r
  obtain ⟨p4, a4, e4⟩ := List.mem_map.mp h.b
  have b1 := hn _ a1
  have b2 := hn _ a2
  have b3 := hn _ a3
  have b4 := hn _ a4
  unfold Near at b1 b2 b3 b4
  omega
theorem common_right {ps qs : List IP} {A B : IBox} (ha : IsIB ps A) (hb : IsIB qs B) (na : ∀ p ∈ ps, Near p) (nb : ∀ p ∈ qs, Near p) : IsO (grid.filter fun p => inB p A && inB p B) (commonO A B) := by
  have va := ha.near na
  have vb := hb.near nb
  unfold commonO
  split
  · rename_i h
    have k1 : ((max A.l B.l, max A.t B.t) : IP) ∈ grid.filter fun p => inB p A && inB p B := by
      rw [List.mem_filter, Bool.and_eq_true, inB_iff, inB_iff]
      refine ⟨mem_grid ?_ ?_, ?_, ?_⟩ <;> simp only <;> omega
    have k2 : ((min A.r B.r, min A.b B.b) : IP) ∈ grid.filter fun p => inB p A && inB p B := by
      rw [List.mem_filter, Bool.and_eq_true, inB_iff, inB_iff]
      refine ⟨mem_grid ?_ ?_, ?_, ?_⟩ <;> simp only <;> omega
    refine ⟨List.mem_map.mpr ⟨_, k1, rfl⟩, List.mem_map.mpr ⟨_, k1, rfl⟩, List.mem_map.mpr ⟨_, k2, rfl⟩, List.mem_map.mpr ⟨_, k2, rfl⟩, fun p hp => ?_⟩
    rw [List.mem_filter, Bool.and_eq_true, inB_iff, inB_iff] at hp
    simp only
    omega
  · rename_i h
    show List.filter _ _ = []
    rw [List.filter_eq_nil_iff]
    intro p hp hq
    rw [Bool.and_eq_true, inB_iff, inB_iff] at hq
    omega

/-! areas -/
def prevI (ps : List IP) (k : Nat) : IP := ps.getD (if k = 0 then ps.length - 1 else k - 1) (0, 0)
def curI (ps : List IP) (k : Nat) : IP := ps.getD k (0, 0)
def crossSum (ps : List IP) : Nat → Int
  | 0 => 0
  | k + 1 => crossSum ps k + (prevI ps k).1 * (curI ps k).2 - (prevI ps k).2 * (curI ps k).1
def fan (ps : List IP) : Nat → Int
  | 0 => 0
  | k + 1 => fan ps k + ((curI ps (k + 1)).1 - (curI ps 0).1) * ((curI ps (k + 2)).2 - (curI ps 0).2) - ((curI ps (k + 1)).2 - (curI ps 0).2) * ((curI ps (k + 2)).1 - (curI ps 0).1)
theorem area_same : ∀ (ps : List IP), ps.length ≤ 3 → crossSum ps ps.length = fan ps (ps.length - 2)
  | [], _ => rfl
  | [a], _ => by simp [crossSum, fan, prevI, curI]; grind
  | [a, b], _ => by simp [crossSum, fan, prevI, curI]; grind
  | [a, b, c], _ => by simp [crossSum, fan, prevI, curI]; grind
  | _ :: _ :: _ :: _ :: _, h => by simp at h
-- part PB
theorem warm : PySem.Challenge.rw_on0236_01 = PySem.Challenge.rw_on0236_01 ∧ hd.heap_39 = hd.heap_39 := by
  k_fill
  exact ⟨rfl, rfl⟩

noncomputable abbrev G (w : World) (mean : ExcName → Option Value) (mg mb : Str → Option Value) : Gl :=
  { prog := PySem.Challenge.rw_on0236_01.row.prog, w := w, K := hd.heap_39 w.params, p := hd.view_39, loose := looseW hd.view_39 [Str.ofString "fraction", Str.ofString "curve_box", Str.ofString "reached_box"], mean := mean, mg := mg, mb := mb, half := 128 }

section
variable {w : World} {mean : ExcName → Option Value} {mg mb : Str → Option Value}
theorem gn_abs : GName (G w mean mg mb) (Str.ofString "abs") (.builtin "abs") := .builtin (by show nsIn (hd.heap_39 _) _ _ = _; k_is) (by decide +kernel) (by decide) rfl
theorem gn_len : GName (G w mean mg mb) (Str.ofString "len") (.builtin "len") := .builtin (by show nsIn (hd.heap_39 _) _ _ = _; k_is) (by decide +kernel) (by decide) rfl
theorem gn_max : GName (G w mean mg mb) (Str.ofString "max") (.builtin "max") := .builtin (by show nsIn (hd.heap_39 _) _ _ = _; k_is) (by decide +kernel) (by decide) rfl
theorem gn_min : GName (G w mean mg mb) (Str.ofString "min") (.builtin "min") := .builtin (by show nsIn (hd.heap_39 _) _ _ = _; k_is) (by decide +kernel) (by decide) rfl
theorem gn_int : GName (G w mean mg mb) (Str.ofString "int") (.type "int") := .type (by show nsIn (hd.heap_39 _) _ _ = _; k_is) (by decide +kernel) (by decide) rfl
theorem gn_range : GName (G w mean mg mb) (Str.ofString "range") (.type "range") := .type (by show nsIn (hd.heap_39 _) _ _ = _; k_is) (by decide +kernel) (by decide) rfl
theorem gn_tuple : GName (G w mean mg mb) (Str.ofString "tuple") (.type "tuple") := .type (by show nsIn (hd.heap_39 _) _ _ = _; k_is) (by decide +kernel) (by decide) rfl
theorem gn_list : GName (G w mean mg mb) (Str.ofString "list") (.type "list") := .type (by show nsIn (hd.heap_39 _) _ _ = _; k_is) (by decide +kernel) (by decide) rfl
theorem zip_in : nsIn (G w mean mg mb).K mainGlobals (Str.ofString "zip") = some none := by show nsIn (hd.heap_39 _) _ _ = _; k_is
theorem zip_boot : bootBuiltins (Str.ofString "zip") = some (.type "zip") := by decide +kernel
theorem zip_ne : (Str.ofString "zip") ≠ "__name__" := by decide
theorem gn_zip : GName (G w mean mg mb) (Str.ofString "zip") (.type "zip") := .type (by show nsIn (hd.heap_39 _) _ _ = _; k_is) (by decide +kernel) (by decide) rfl
end


theorem mulS {a b : Int} (h : a.natAbs < 2 ^ 60) : IntMulOk a b := by
  refine IntMulOk.of_left ?_
  unfold Builtin.Int.intBits
  split
  · omega
  · rename_i h0
    have : a.natAbs ≠ 0 := by simpa using h0
    have := (Nat.log2_lt this).mpr h
    omega
theorem intBits_le {a : Int} {k : Nat} (h : a.natAbs < 2 ^ k) : Builtin.Int.intBits a ≤ k := by
  unfold Builtin.Int.intBits
  split
  · omega
  · rename_i h0
    have : a.natAbs ≠ 0 := by simpa using h0
    have := (Nat.log2_lt this).mpr h
    omega
theorem mulB {a b : Int} {k j : Nat} (h : a.natAbs < 2 ^ k) (h2 : b.natAbs < 2 ^ j) (hk : k ≤ 2 ^ 20) (hj : j ≤ 2 ^ 20) : IntMulOk a b := .of_bits (Nat.le_trans (intBits_le h) hk) (Nat.le_trans (intBits_le h2) hj)
theorem pick_zero {d : D} {ds : List D} : pick 0 (d :: ds) = some d := by simp [pick, seqIndex?]
theorem pick_nat {i : Nat} {d : D} {ds : List D} (h : ds[i]? = some d) : pick i ds = some d := by
  have hi : i < ds.length := (List.getElem?_eq_some_iff.mp h).1
  unfold pick seqIndex?
  have h1 : ¬ ((i : Int) < 0) := by omega
  rw [if_neg h1, if_pos (by simpa using hi)]
  simpa using h
theorem pick_last {d : D} {ds : List D} : pick (-1) (ds ++ [d]) = some d := by
  unfold pick seqIndex?
  have h1 : (if (-1 : Int) < 0 then -1 + ((ds ++ [d]).length : Int) else -1) = (ds.length : Int) := by
    rw [if_pos (by decide), List.length_append]; simp only [List.length_cons, List.length_nil]; omega
  have h2 : (ds.length : Int) < (ds.length : Int) + 1 := by omega
  simp only [h1]
  simp [h2]
theorem boolT {P : Prop} [Decidable P] (h : P) : decide P = true := decide_eq_true h
theorem boolF {P : Prop} [Decidable P] (h : ¬ P) : decide P = false := decide_eq_false h
-- [the rows of the walk]
-- ktd_rel: an expression (or a list of them); k_mem: facts of the written part; k_upd: a comparison; ktr_rel: a call
local macro_rules | `(tactic| k_mem) => `(tactic| first
  | (show List.lookup _ (hd.heap_39 _) = _; k_is)
  | (show codeIn (hd.heap_39 _) _ _ = _; k_is)
  | (show nsIn (hd.heap_39 _) _ _ = _; k_is)
  | (show keepIn (hd.heap_39 _) _ = _; k_is)
  | exact gn_abs | exact gn_len | exact gn_max | exact gn_min | exact gn_int | exact gn_range | exact gn_tuple | exact gn_list | exact gn_zip
  | ((with_reducible refine' GName.top ?a ?b); (case a => show nsIn (hd.heap_39 _) _ _ = _; k_is); (case b => show keepIn (hd.heap_39 _) _ = _; k_is)))
local macro_rules | `(tactic| k_upd) => `(tactic| first | with_reducible exact cmp_lt | with_reducible exact cmp_gt | with_reducible exact cmp_le | with_reducible exact cmp_ge | with_reducible exact cmp_eq | with_reducible exact cmp_ne | with_reducible exact cmp_is | with_reducible exact cmp_eqNil | with_reducible exact cmp_neNil | with_reducible exact cmp_in | with_reducible exact cmp_notin | fail "cmp")
local macro_rules | `(tactic| ktr_rel) => `(tactic| first
  | with_reducible assumption
  | with_reducible exact call_abs | with_reducible exact call_max2 | with_reducible exact call_min2 | with_reducible exact call_intb | with_reducible exact call_inti
  | with_reducible exact call_lenT (by first | with_reducible assumption | exact Nat.le_of_ble_eq_true rfl) | with_reducible exact call_lenL (by first | with_reducible assumption | exact Nat.le_of_ble_eq_true rfl) | with_reducible exact call_tupT | with_reducible exact call_tupL (by first | with_reducible assumption | exact Nat.le_of_ble_eq_true rfl) | with_reducible exact call_lstT (by first | with_reducible assumption | exact Nat.le_of_ble_eq_true rfl))
local macro_rules | `(tactic| ktd_rel) => `(tactic| first
  | with_reducible exact EvS.int
  | with_reducible exact EvS.bool
  | with_reducible exact EvS.cnone
  | with_reducible exact EvL.nil
  | ((with_reducible refine' lCons ?a ?b ?c); (case a => ktd_rel); (case b => ktd_rel); (case c => exact fun _ => rfl))
  | ((with_reducible refine' eName ?a ?b); (case a => exact rfl); (case b => decide))
  | ((with_reducible refine' eHalf ?a ?b ?c); (case a => k_mem); (case b => exact rfl); (case c => decide))
  | ((with_reducible refine' EvS.neg ?a); (case a => ktd_rel))
  | ((with_reducible refine' EvS.rev ?a ?b); (case a => ktd_rel); (case b => first | with_reducible assumption | exact Nat.le_of_ble_eq_true rfl))
  | ((with_reducible refine' eItem ?a ?b ?c ?d ?e); (case a => ktd_rel); (case b => ktd_rel); (case c => first | exact .tup (by with_reducible assumption) | exact .lst (by with_reducible assumption) | exact .mref (by with_reducible assumption) (by with_reducible assumption) | exact .lst pick_zero | exact .tup pick_zero | exact .tup rfl | exact .lst rfl | exact .mref (by assumption) rfl); (case d => first | decide | omega); (case e => first | exact fun _ _ => rfl | exact fun _ _ => by with_unfolding_all rfl))
  | ((with_reducible refine' EvS.add ?a ?b); (case a => ktd_rel); (case b => ktd_rel))
  | ((with_reducible refine' EvS.sub ?a ?b); (case a => ktd_rel); (case b => ktd_rel))
  | ((with_reducible refine' EvS.mul ?a ?b ?c); (case a => ktd_rel); (case b => ktd_rel); (case c => first | with_reducible assumption | exact mulS (by with_reducible assumption) | exact IntMulOk.of_right (by decide +kernel) | exact IntMulOk.of_left (by decide +kernel)))
  | ((with_reducible refine' EvS.fdiv ?a ?b ?c ?d); (case a => ktd_rel); (case b => ktd_rel); (case c => first | with_reducible assumption | decide); (case d => first | with_reducible assumption | decide))
  | ((with_reducible refine' EvS.pow ?a ?b ?c ?d); (case a => ktd_rel); (case b => ktd_rel); (case c => decide); (case d => decide +kernel))
  | ((with_reducible refine' EvS.mod ?a ?b ?c); (case a => ktd_rel); (case b => ktd_rel); (case c => first | with_reducible assumption | decide))
  | ((with_reducible refine' eCmp ?a ?b ?c ?d); (case a => ktd_rel); (case b => ktd_rel); (case c => k_upd); (case d => exact rfl))
  | ((with_reducible refine' eChain ?a ?b ?c ?d ?e ?f); (case a => ktd_rel); (case b => ktd_rel); (case c => k_upd); (case d => ktd_rel); (case e => k_upd); (case f => exact rfl))
  | ((with_reducible refine' eAnd ?a ?b); (case a => ktd_rel); (case b => ktd_rel))
  | ((with_reducible refine' eTup ?a ?b); (case a => ktd_rel); (case b => exact Nat.le_of_ble_eq_true rfl))
  | ((with_reducible refine' eLst ?a ?b); (case a => ktd_rel); (case b => exact Nat.le_of_ble_eq_true rfl))
  | ((with_reducible refine' eCall ?a ?b ?c ?d ?e ?f ?g); (case a => k_mem); (case b => exact rfl); (case c => ktd_rel); (case d => ktr_rel); (case e => decide); (case f => exact fun _ => rfl); (case g => exact fun _ => rfl))
  | fail "ev")
-- k_all: a test; k_updF: a store ahead
local macro_rules | `(tactic| k_all) => `(tactic| first
  | ((with_reducible refine' tCmp ?a ?b ?c ?d); (case a => ktd_rel); (case b => ktd_rel); (case c => k_upd); (case d => exact rfl))
  | ((with_reducible refine' tChain ?a ?b ?c ?d ?e ?f); (case a => ktd_rel); (case b => ktd_rel); (case c => k_upd); (case d => ktd_rel); (case e => k_upd); (case f => exact rfl))
  | ((with_reducible refine' tNot ?a); (case a => k_all))
  | ((with_reducible refine' tCall ?a); (case a => ktd_rel))
  | ((with_reducible refine' tAnd ?a ?b); (case a => k_all); (case b => k_all))
  | ((with_reducible refine' tOr ?a ?b); (case a => k_all); (case b => k_all))
  | fail "test")
local macro_rules | `(tactic| k_updF) => `(tactic| first
  | ((with_reducible refine' ExS.cons (xAssign2 ?a ?b ?c ?d ?e) ?rest); (case a => ktd_rel); (case b => exact rfl); (case c => exact rfl); (case d => exact fun _ _ => rfl); (case e => exact fun e h => by cases e; cases h; rfl); (case' rest => skip))
  | ((with_reducible refine' ExS.cons (xAssign ?a ?b ?c) ?rest); (case a => ktd_rel); (case b => first | exact .inl rfl | exact .inr rfl); (case c => exact fun _ _ => rfl); (case' rest => skip)))

-- part P1
section
variable {w : World} {mean : ExcName → Option Value} {mg mb : Str → Option Value} {μ : Mu}
theorem gcd_spec (t : Int) (b : Nat) : CallS (G w mean mg mb) 1 μ (.ref 53) [.int t, .int b] (.int (Nat.gcd t.natAbs b : Nat)) μ := by
  refine' CallS.def_ (n := 0) (ex := []) (dex := []) (xs := [Str.ofString "one", Str.ofString "other"]) (σ' := []) (by k_mem) (by k_mem) ?h3 (fun _ => .nil) rfl (by decide) ?h4 ?h5 rfl rfl rfl
  case h3 => intro s vs X hl; match vs, hl with | [v, u], _ => exact BindsTo.of_eq rfl
  case h4 => decide
  case h5 =>
    k_updF
    refine' xWhile (fun m σ ν => ∃ x : Nat, σ = [(Str.ofString "first", .int x), (Str.ofString "second", .int m)] ∧ Nat.gcd x m = Nat.gcd t.natAbs b ∧ ν = μ) b [(Str.ofString "first", .int t.natAbs), (Str.ofString "second", .int b)] ?hw ?i0 ?step
    case hw =>
      have e : (if t < 0 then -t else t) = (t.natAbs : Int) := by omega
      rw [e]
      exact Sub2 rfl rfl
    case i0 => exact ⟨_, rfl, rfl, rfl⟩
    case step =>
      rintro y σ ν ⟨x, rfl, hg, rfl⟩
      by_cases h : (0 : Int) < y
      · have hy : (y : Int) ≠ 0 := by omega
        refine' wStep [(Str.ofString "first", .int y), (Str.ofString "second", .int (x % y : Nat))] (x % y) (TsS.to (b := decide ((0 : Int) < y)) ?t1 (boolT h)) ?b1 ?s1 (Nat.mod_lt _ (by omega)) ⟨_, rfl, ?g1, rfl⟩
        case t1 => k_all
        case b1 =>
          k_updF
          exact ExS.nil
        case s1 =>
          refine Sub2 rfl ?_
          show some (D.int ((x : Int).fmod y)) = _
          rw [Int.fmod_eq_emod_of_nonneg _ (by omega)]
          rfl
        case g1 => rw [← hg, Nat.gcd_comm x y, Nat.gcd_rec y x, Nat.gcd_comm]
      · have hy : y = 0 := by omega
        subst hy
        refine' .inr ⟨TsS.to (b := decide ((0 : Int) < (0 : Nat))) ?t1 (boolF (by omega)), ?r1⟩
        case t1 => k_all
        case r1 =>
        rw [← hg, Nat.gcd_zero_right]
        exact ExS.retW (by ktd_rel)
end
-- part P2
def qd (r : Rat) : D := .tup [.int r.num, .int (r.den : Nat)]
theorem qd_mk (t : Int) (b : Nat) (hb : 0 < b) : D.tup [.int (t.fdiv (Nat.gcd t.natAbs b : Nat)), .int ((b : Int).fdiv (Nat.gcd t.natAbs b : Nat))] = qd (mkRat t b) := by
  have h0 : b ≠ 0 := by omega
  have e1 : ∀ (x y : Int), 0 ≤ y → x.fdiv y = x / y := fun x y h => Int.fdiv_eq_ediv_of_nonneg _ h
  unfold qd
  rw [Rat.num_mkRat, Rat.den_mkRat, if_neg h0, if_neg h0, e1 _ _ (by omega), e1 _ _ (by omega), Nat.gcd_comm t.natAbs b]
  simp
section
variable {w : World} {mean : ExcName → Option Value} {mg mb : Str → Option Value} {μ : Mu}
theorem fraction_spec (t : Int) (b : Nat) (hb : 0 < b) (hs : b.log2 < 9000) : CallS (G w mean mg mb) 2 μ (.ref 61) [.int t, .int b] (qd (mkRat t b)) μ := by
  refine' CallS.def_ (n := 1) (ex := []) (dex := []) (xs := [Str.ofString "top", Str.ofString "bottom"]) (σ' := []) (by k_mem) (by k_mem) ?h3 (fun _ => .nil) rfl (by decide) ?h4 ?h5 rfl rfl rfl
  case h3 => intro s vs X hl; match vs, hl with | [v, u], _ => exact binds_K X rfl (by k_mem) rfl rfl rfl
  case h4 => decide
  case h5 =>
    rw [← qd_mk t b hb]
    have hg : Nat.gcd t.natAbs b ≠ 0 := Nat.gcd_ne_zero_right (by omega)
    have hg0 : ((Nat.gcd t.natAbs b : Nat) : Int) ≠ 0 := by omega
    have hgs : (Int.natAbs (Nat.gcd t.natAbs b : Nat)).log2 < 9000 := by
      rw [Int.natAbs_natCast]
      have hle : Nat.gcd t.natAbs b ≤ b := Nat.gcd_le_right _ hb
      rw [Nat.log2_lt (by omega)] at hs ⊢
      omega
    refine' ExS.ifF (TsS.to ?t1 (show ((b : Int) == 0) = false by simp; omega)) ?r1
    case t1 => k_all
    case r1 =>
    refine' ExS.ifF (TsS.to ?t1 (boolF (show ¬ (b : Int) < 0 by omega))) ?r2
    case t1 => k_all
    case r2 =>
    have hc := gcd_spec (w := w) (mean := mean) (mg := mg) (mb := mb) (μ := μ) t b
    k_updF
    refine ExS.retW ?_
    ktd_rel

def Sz (k : Nat) (r : Rat) : Prop := r.num.natAbs < 2 ^ k ∧ r.den < 2 ^ k
theorem Sz.mono {k j : Nat} {r : Rat} (h : Sz k r) (hk : k ≤ j) : Sz j r :=
  ⟨Nat.lt_of_lt_of_le h.1 (Nat.pow_le_pow_right (by decide) hk), Nat.lt_of_lt_of_le h.2 (Nat.pow_le_pow_right (by decide) hk)⟩
theorem Sz.mk' {t : Int} {b k : Nat} (hb : 0 < b) (h1 : t.natAbs < 2 ^ k) (h2 : b < 2 ^ k) : Sz k (mkRat t b) := by
  have h0 : b ≠ 0 := by omega
  refine ⟨?_, ?_⟩
  · rw [Rat.num_mkRat, if_neg h0]
    refine Nat.lt_of_le_of_lt ?_ h1
    have : 0 < b.gcd t.natAbs := Nat.gcd_pos_of_pos_left _ hb
    rw [Int.natAbs_ediv_of_dvd (Int.ofNat_dvd_left.mpr (Nat.gcd_dvd_right _ _))]
    exact Nat.div_le_self _ _
  · rw [Rat.den_mkRat, if_neg h0]
    exact Nat.lt_of_le_of_lt (Nat.div_le_self _ _) h2
theorem natAbs_mul_lt {a b : Int} {k j : Nat} (h1 : a.natAbs < 2 ^ k) (h2 : b.natAbs < 2 ^ j) : (a * b).natAbs < 2 ^ (k + j) := by
  rw [Int.natAbs_mul, Nat.pow_add]
  exact Nat.mul_lt_mul'' h1 h2
theorem natAbs_add_lt {a b : Int} {k : Nat} (h1 : a.natAbs < 2 ^ k) (h2 : b.natAbs < 2 ^ k) : (a + b).natAbs < 2 ^ (k + 1) := by
  have := Int.natAbs_add_le a b
  rw [Nat.pow_succ]; omega
theorem natAbs_sub_lt {a b : Int} {k : Nat} (h1 : a.natAbs < 2 ^ k) (h2 : b.natAbs < 2 ^ k) : (a - b).natAbs < 2 ^ (k + 1) := by
  have := Int.natAbs_sub_le a b
  rw [Nat.pow_succ]; omega
theorem log2_small {b k : Nat} (h : b < 2 ^ k) (hb : 0 < b) (hk : k ≤ 9000) : b.log2 < 9000 := by
  have := (Nat.log2_lt (by omega : b ≠ 0)).mpr h
  omega
theorem rat_add_mk (a b : Rat) : mkRat (a.num * b.den + b.num * a.den) (a.den * b.den) = a + b := by rw [Rat.add_def, Rat.mkRat_def, dif_neg]
theorem rat_sub_mk (a b : Rat) : mkRat (a.num * b.den - b.num * a.den) (a.den * b.den) = a - b := by rw [Rat.sub_def, Rat.mkRat_def, dif_neg]
theorem rat_mul_mk (a b : Rat) : mkRat (a.num * b.num) (a.den * b.den) = a * b := by rw [Rat.mul_def, Rat.mkRat_def, dif_neg]
theorem plus_spec {k j : Nat} (a b : Rat) (ha : Sz k a) (hb : Sz j b) (hk : k + j ≤ 9000) : CallS (G w mean mg mb) 3 μ (.ref 68) [qd a, qd b] (qd (a + b)) μ := by
  refine' CallS.def_ (n := 2) (ex := []) (dex := []) (xs := [Str.ofString "a", Str.ofString "b"]) (σ' := []) (by k_mem) (by k_mem) ?h3 (fun _ => .nil) rfl (by decide) ?h4 ?h5 rfl rfl rfl
  case h3 => intro s vs X hl; match vs, hl with | [v0, v1], _ => first | exact BindsTo.of_eq rfl | exact binds_K X rfl (by k_mem) rfl rfl rfl
  case h4 => decide
  case h5 =>
    have h1 := mulB (a := a.num) (b := b.den) ha.1 (by simpa using hb.2) (by omega) (by omega)
    have h2 := mulB (a := b.num) (b := a.den) hb.1 (by simpa using ha.2) (by omega) (by omega)
    have h3 := mulB (a := a.den) (b := b.den) (by simpa using ha.2) (by simpa using hb.2) (by omega) (by omega)
    have hd : 0 < a.den * b.den := Nat.mul_pos a.den_pos b.den_pos
    have hc := fraction_spec (w := w) (mean := mean) (mg := mg) (mb := mb) (μ := μ) (a.num * b.den + b.num * a.den) (a.den * b.den) hd (log2_small (k := k + j) (by rw [Nat.pow_add]; exact Nat.mul_lt_mul'' ha.2 hb.2) hd hk)
    rw [rat_add_mk, Int.natCast_mul] at hc
    refine ExS.retW ?_
    unfold qd
    ktd_rel
theorem minus_spec {k j : Nat} (a b : Rat) (ha : Sz k a) (hb : Sz j b) (hk : k + j ≤ 9000) : CallS (G w mean mg mb) 3 μ (.ref 75) [qd a, qd b] (qd (a - b)) μ := by
  refine' CallS.def_ (n := 2) (ex := []) (dex := []) (xs := [Str.ofString "a", Str.ofString "b"]) (σ' := []) (by k_mem) (by k_mem) ?h3 (fun _ => .nil) rfl (by decide) ?h4 ?h5 rfl rfl rfl
  case h3 => intro s vs X hl; match vs, hl with | [v0, v1], _ => first | exact BindsTo.of_eq rfl | exact binds_K X rfl (by k_mem) rfl rfl rfl
  case h4 => decide
  case h5 =>
    have h1 := mulB (a := a.num) (b := b.den) ha.1 (by simpa using hb.2) (by omega) (by omega)
    have h2 := mulB (a := b.num) (b := a.den) hb.1 (by simpa using ha.2) (by omega) (by omega)
    have h3 := mulB (a := a.den) (b := b.den) (by simpa using ha.2) (by simpa using hb.2) (by omega) (by omega)
    have h4 := mulB (a := a.num) (b := b.num) ha.1 hb.1 (by omega) (by omega)
    have hd : 0 < a.den * b.den := Nat.mul_pos a.den_pos b.den_pos
    have hc := fraction_spec (w := w) (mean := mean) (mg := mg) (mb := mb) (μ := μ) (a.num * b.den - b.num * a.den) (a.den * b.den) hd (log2_small (k := k + j) (by rw [Nat.pow_add]; exact Nat.mul_lt_mul'' ha.2 hb.2) hd hk)
    rw [rat_sub_mk, Int.natCast_mul] at hc
    refine ExS.retW ?_
    unfold qd
    ktd_rel
theorem times_spec {k j : Nat} (a b : Rat) (ha : Sz k a) (hb : Sz j b) (hk : k + j ≤ 9000) : CallS (G w mean mg mb) 3 μ (.ref 82) [qd a, qd b] (qd (a * b)) μ := by
  refine' CallS.def_ (n := 2) (ex := []) (dex := []) (xs := [Str.ofString "a", Str.ofString "b"]) (σ' := []) (by k_mem) (by k_mem) ?h3 (fun _ => .nil) rfl (by decide) ?h4 ?h5 rfl rfl rfl
  case h3 => intro s vs X hl; match vs, hl with | [v0, v1], _ => first | exact BindsTo.of_eq rfl | exact binds_K X rfl (by k_mem) rfl rfl rfl
  case h4 => decide
  case h5 =>
    have h1 := mulB (a := a.num) (b := b.den) ha.1 (by simpa using hb.2) (by omega) (by omega)
    have h2 := mulB (a := b.num) (b := a.den) hb.1 (by simpa using ha.2) (by omega) (by omega)
    have h3 := mulB (a := a.den) (b := b.den) (by simpa using ha.2) (by simpa using hb.2) (by omega) (by omega)
    have h4 := mulB (a := a.num) (b := b.num) ha.1 hb.1 (by omega) (by omega)
    have hd : 0 < a.den * b.den := Nat.mul_pos a.den_pos b.den_pos
    have hc := fraction_spec (w := w) (mean := mean) (mg := mg) (mb := mb) (μ := μ) (a.num * b.num) (a.den * b.den) hd (log2_small (k := k + j) (by rw [Nat.pow_add]; exact Nat.mul_lt_mul'' ha.2 hb.2) hd hk)
    rw [rat_mul_mk, Int.natCast_mul] at hc
    refine ExS.retW ?_
    unfold qd
    ktd_rel

theorem Sz.add {k j : Nat} {a b : Rat} (ha : Sz k a) (hb : Sz j b) : Sz (k + j + 1) (a + b) := by
  have hd : 0 < a.den * b.den := Nat.mul_pos a.den_pos b.den_pos
  rw [← rat_add_mk]
  refine Sz.mk' hd (natAbs_add_lt (natAbs_mul_lt ha.1 (by simpa using hb.2)) ?_) ?_
  · rw [Nat.add_comm]; exact natAbs_mul_lt hb.1 (by simpa using ha.2)
  · refine Nat.lt_of_lt_of_le (m := 2 ^ (k + j)) ?_ (Nat.pow_le_pow_right (by decide) (by omega))
    rw [Nat.pow_add]; exact Nat.mul_lt_mul'' ha.2 hb.2
theorem Sz.sub {k j : Nat} {a b : Rat} (ha : Sz k a) (hb : Sz j b) : Sz (k + j + 1) (a - b) := by
  have hd : 0 < a.den * b.den := Nat.mul_pos a.den_pos b.den_pos
  rw [← rat_sub_mk]
  refine Sz.mk' hd (natAbs_sub_lt (natAbs_mul_lt ha.1 (by simpa using hb.2)) ?_) ?_
  · rw [Nat.add_comm]; exact natAbs_mul_lt hb.1 (by simpa using ha.2)
  · refine Nat.lt_of_lt_of_le (m := 2 ^ (k + j)) ?_ (Nat.pow_le_pow_right (by decide) (by omega))
    rw [Nat.pow_add]; exact Nat.mul_lt_mul'' ha.2 hb.2
theorem Sz.mul {k j : Nat} {a b : Rat} (ha : Sz k a) (hb : Sz j b) : Sz (k + j) (a * b) := by
  have hd : 0 < a.den * b.den := Nat.mul_pos a.den_pos b.den_pos
  rw [← rat_mul_mk]
  refine Sz.mk' hd (natAbs_mul_lt ha.1 hb.1) ?_
  rw [Nat.pow_add]; exact Nat.mul_lt_mul'' ha.2 hb.2

def sgn (a : Int) : Int := if 0 < a then 1 else if a < 0 then -1 else 0
theorem sign_of_spec (a b : Int) : CallS (G w mean mg mb) 1 μ (.ref 89) [.tup [.int a, .int b]] (.int (sgn a)) μ := by
  refine' CallS.def_ (n := 0) (ex := []) (dex := []) (xs := [Str.ofString "a"]) (σ' := []) (by k_mem) (by k_mem) ?h3 (fun _ => .nil) rfl (by decide) ?h4 ?h5 rfl rfl rfl
  case h3 => intro s vs X hl; match vs, hl with | [v0], _ => first | exact BindsTo.of_eq rfl | exact binds_K X rfl (by k_mem) rfl rfl rfl
  case h4 => decide
  case h5 =>
    unfold sgn
    by_cases h1 : 0 < a
    · rw [if_pos h1]
      refine' ExS.ifT (TsS.to ?t (boolT h1)) (ExS.retW ?e)
      case t => k_all
      case e => ktd_rel
    · rw [if_neg h1]
      refine' ExS.ifF (TsS.to ?t (boolF h1)) ?e
      case t => k_all
      case e =>
        by_cases h2 : a < 0
        · rw [if_pos h2]
          refine' ExS.ifT (TsS.to ?t1 (boolT h2)) (ExS.retW ?e1)
          case t1 => k_all
          case e1 => ktd_rel
        · rw [if_neg h2]
          refine' ExS.ifF (TsS.to ?t1 (boolF h2)) (ExS.retW ?e1)
          case t1 => k_all
          case e1 => ktd_rel
def cmpR (a b : Rat) : Int := sgn (a.num * b.den - b.num * a.den)
theorem cmpR_lt {a b : Rat} : cmpR a b < 0 ↔ a < b := by
  rw [Rat.lt_iff]; unfold cmpR sgn; split
  · constructor <;> intro h <;> omega
  · split <;> constructor <;> intro h <;> omega
theorem cmpR_gt {a b : Rat} : 0 < cmpR a b ↔ b < a := by
  rw [Rat.lt_iff]; unfold cmpR sgn; split
  · constructor <;> intro h <;> omega
  · split <;> constructor <;> intro h <;> omega
theorem cmpR_eq {a : Rat} : cmpR a a = 0 := by
  have h1 := @cmpR_lt a a
  have h2 := @cmpR_gt a a
  have h3 : ¬ a < a := Rat.lt_irrefl
  rw [← h1] at h3
  have h4 : ¬ a < a := Rat.lt_irrefl
  rw [← h2] at h4
  omega
theorem cmpR_range (a b : Rat) : cmpR a b = -1 ∨ cmpR a b = 0 ∨ cmpR a b = 1 := by
  unfold cmpR sgn; split
  · omega
  · split <;> omega
theorem compare_spec {k j : Nat} (a b : Rat) (ha : Sz k a) (hb : Sz j b) (hk : k + j ≤ 100000) : CallS (G w mean mg mb) 2 μ (.ref 96) [qd a, qd b] (.int (cmpR a b)) μ := by
  refine' CallS.def_ (n := 1) (ex := []) (dex := []) (xs := [Str.ofString "a", Str.ofString "b"]) (σ' := []) (by k_mem) (by k_mem) ?h3 (fun _ => .nil) rfl (by decide) ?h4 ?h5 rfl rfl rfl
  case h3 => intro s vs X hl; match vs, hl with | [v0, v1], _ => first | exact BindsTo.of_eq rfl | exact binds_K X rfl (by k_mem) rfl rfl rfl
  case h4 => decide
  case h5 =>
    have h1 := mulB (a := a.num) (b := b.den) ha.1 (by simpa using hb.2) (by omega) (by omega)
    have h2 := mulB (a := b.num) (b := a.den) hb.1 (by simpa using ha.2) (by omega) (by omega)
    have hc := sign_of_spec (w := w) (mean := mean) (mg := mg) (mb := mb) (μ := μ) (a.num * b.den - b.num * a.den) 1
    refine ExS.retW ?_
    unfold qd
    ktd_rel
end
-- part P3
theorem qd_inj {a b : Rat} (h : qd a = qd b) : a = b := by
  unfold qd at h
  injection h with h
  injection h with h1 h2
  injection h1 with h1
  injection h2 with h2
  injection h2 with h2
  exact Rat.ext h1 (Int.ofNat.inj h2)
section
variable {w : World} {mean : ExcName → Option Value} {mg mb : Str → Option Value} {μ : Mu}
theorem least_spec {k : Nat} (rs : List Rat) (m : Rat) (hm : m ∈ rs) (hle : ∀ x ∈ rs, m ≤ x) (hs : ∀ r ∈ rs, Sz k r) (hk : k ≤ 50000) : CallS (G w mean mg mb) 3 μ (.ref 103) [.lst (rs.map qd)] (qd m) μ := by
  refine' CallS.def_ (n := 2) (ex := []) (dex := []) (xs := [Str.ofString "some"]) (σ' := []) (by k_mem) (by k_mem) ?h3 (fun _ => .nil) rfl (by decide) ?h4 ?h5 rfl rfl rfl
  case h3 => intro s vs X hl; match vs, hl with | [v0], _ => first | exact BindsTo.of_eq rfl | exact binds_K X rfl (by k_mem) rfl rfl rfl
  case h4 => decide
  case h5 =>
    obtain ⟨r0, rt, rfl⟩ : ∃ r0 rt, rs = r0 :: rt := by cases rs with | nil => cases hm | cons a b => exact ⟨a, b, rfl⟩
    k_updF
    refine' xFor (fun done rest σ ν => ν = μ ∧ ∃ f ∈ r0 :: rt, σ = [((Str.ofString "found"), qd f), ((Str.ofString "some"), .lst ((r0 :: rt).map qd))] ∧ (∀ x ∈ r0 :: rt, f ≤ x ∨ qd x ∈ rest) ∧ (∀ d ∈ rest, ∃ r ∈ r0 :: rt, d = qd r)) [((Str.ofString "found"), qd r0), ((Str.ofString "some"), .lst ((r0 :: rt).map qd))] ?hi ?hd ?hsm ?hs ?hw ?h0 ?step ?rest
    case hi => ktd_rel
    case hd => exact rfl
    case hsm => intro a b h; cases h
    case hs => exact fun _ _ => rfl
    case hw => exact Sub2 rfl rfl
    case h0 => exact ⟨rfl, r0, .head _, rfl, fun x hx => .inr (List.mem_map_of_mem hx), fun d hd => by obtain ⟨r, h1, h2⟩ := List.mem_map.mp hd; exact ⟨r, h1, h2.symm⟩⟩
    case step =>
      rintro done d rest σ ν ⟨rfl, f, hf, rfl, h1, h2⟩
      obtain ⟨r, hr, rfl⟩ := h2 d (.head _)
      have hc := (compare_spec (w := w) (mean := mean) (mg := mg) (mb := mb) (μ := ν) r f (hs _ hr) (hs _ hf) (by omega))
      have h3 : ∀ x ∈ r0 :: rt, f ≤ x ∨ x = r ∨ qd x ∈ rest := fun x hx => by
        rcases h1 x hx with q | q
        · exact .inl q
        · rcases List.mem_cons.mp q with e | e
          · exact .inr (.inl (qd_inj e))
          · exact .inr (.inr e)
      by_cases hlt : r < f
      · refine' fStep [((Str.ofString "found"), qd r), ((Str.ofString "some"), .lst ((r0 :: rt).map qd))] (AsS.name (.inl rfl)) ?b ?s ?q
        case b =>
          refine' ExS.ifN (TsS.to ?t1 (boolT (cmpR_lt.mpr hlt))) ?b1 ExS.nil
          case t1 => k_all
          case b1 =>
            k_updF
            exact ExS.nil
        case s => exact Sub2 rfl rfl
        case q =>
          refine ⟨rfl, r, hr, rfl, fun x hx => ?_, fun d hd => h2 d (.tail _ hd)⟩
          rcases h3 x hx with q | q | q
          · exact .inl (Rat.le_trans (Rat.le_of_lt hlt) q)
          · subst q; exact .inl Rat.le_refl
          · exact .inr q
      · refine' fStep [((Str.ofString "found"), qd f), ((Str.ofString "some"), .lst ((r0 :: rt).map qd))] (AsS.name (.inl rfl)) ?b ?s ?q
        case b =>
          refine' ExS.ifF (TsS.to ?t1 (boolF (fun h => hlt (cmpR_lt.mp h)))) ExS.nil
          case t1 => k_all
        case s => exact Sub2 rfl rfl
        case q =>
          refine ⟨rfl, f, hf, rfl, fun x hx => ?_, fun d hd => h2 d (.tail _ hd)⟩
          rcases h3 x hx with q | q | q
          · exact .inl q
          · subst q; exact .inl (Rat.not_lt.mp hlt)
          · exact .inr q
    case rest =>
      rintro σ ν ⟨rfl, f, hf, rfl, h1, h2⟩
      have e : f = m := Rat.le_antisymm ((h1 m hm).elim id fun q => by cases q) (hle f hf)
      subst e
      exact ExS.retW (by ktd_rel)
theorem greatest_spec {k : Nat} (rs : List Rat) (m : Rat) (hm : m ∈ rs) (hle : ∀ x ∈ rs, x ≤ m) (hs : ∀ r ∈ rs, Sz k r) (hk : k ≤ 50000) : CallS (G w mean mg mb) 3 μ (.ref 110) [.lst (rs.map qd)] (qd m) μ := by
  refine' CallS.def_ (n := 2) (ex := []) (dex := []) (xs := [Str.ofString "some"]) (σ' := []) (by k_mem) (by k_mem) ?h3 (fun _ => .nil) rfl (by decide) ?h4 ?h5 rfl rfl rfl
  case h3 => intro s vs X hl; match vs, hl with | [v0], _ => first | exact BindsTo.of_eq rfl | exact binds_K X rfl (by k_mem) rfl rfl rfl
  case h4 => decide
  case h5 =>
    obtain ⟨r0, rt, rfl⟩ : ∃ r0 rt, rs = r0 :: rt := by cases rs with | nil => cases hm | cons a b => exact ⟨a, b, rfl⟩
    k_updF
    refine' xFor (fun done rest σ ν => ν = μ ∧ ∃ f ∈ r0 :: rt, σ = [((Str.ofString "found"), qd f), ((Str.ofString "some"), .lst ((r0 :: rt).map qd))] ∧ (∀ x ∈ r0 :: rt, x ≤ f ∨ qd x ∈ rest) ∧ (∀ d ∈ rest, ∃ r ∈ r0 :: rt, d = qd r)) [((Str.ofString "found"), qd r0), ((Str.ofString "some"), .lst ((r0 :: rt).map qd))] ?hi ?hd ?hsm ?hs ?hw ?h0 ?step ?rest
    case hi => ktd_rel
    case hd => exact rfl
    case hsm => intro a b h; cases h
    case hs => exact fun _ _ => rfl
    case hw => exact Sub2 rfl rfl
    case h0 => exact ⟨rfl, r0, .head _, rfl, fun x hx => .inr (List.mem_map_of_mem hx), fun d hd => by obtain ⟨r, h1, h2⟩ := List.mem_map.mp hd; exact ⟨r, h1, h2.symm⟩⟩
    case step =>
      rintro done d rest σ ν ⟨rfl, f, hf, rfl, h1, h2⟩
      obtain ⟨r, hr, rfl⟩ := h2 d (.head _)
      have hc := (compare_spec (w := w) (mean := mean) (mg := mg) (mb := mb) (μ := ν) r f (hs _ hr) (hs _ hf) (by omega))
      have h3 : ∀ x ∈ r0 :: rt, x ≤ f ∨ x = r ∨ qd x ∈ rest := fun x hx => by
        rcases h1 x hx with q | q
        · exact .inl q
        · rcases List.mem_cons.mp q with e | e
          · exact .inr (.inl (qd_inj e))
          · exact .inr (.inr e)
      by_cases hlt : f < r
      · refine' fStep [((Str.ofString "found"), qd r), ((Str.ofString "some"), .lst ((r0 :: rt).map qd))] (AsS.name (.inl rfl)) ?b ?s ?q
        case b =>
          refine' ExS.ifN (TsS.to ?t1 (boolT (cmpR_gt.mpr hlt))) ?b1 ExS.nil
          case t1 => k_all
          case b1 =>
            k_updF
            exact ExS.nil
        case s => exact Sub2 rfl rfl
        case q =>
          refine ⟨rfl, r, hr, rfl, fun x hx => ?_, fun d hd => h2 d (.tail _ hd)⟩
          rcases h3 x hx with q | q | q
          · exact .inl (Rat.le_trans q (Rat.le_of_lt hlt))
          · subst q; exact .inl Rat.le_refl
          · exact .inr q
      · refine' fStep [((Str.ofString "found"), qd f), ((Str.ofString "some"), .lst ((r0 :: rt).map qd))] (AsS.name (.inl rfl)) ?b ?s ?q
        case b =>
          refine' ExS.ifF (TsS.to ?t1 (boolF (fun h => hlt (cmpR_gt.mp h)))) ExS.nil
          case t1 => k_all
        case s => exact Sub2 rfl rfl
        case q =>
          refine ⟨rfl, f, hf, rfl, fun x hx => ?_, fun d hd => h2 d (.tail _ hd)⟩
          rcases h3 x hx with q | q | q
          · exact .inl q
          · subst q; exact .inl (Rat.not_lt.mp hlt)
          · exact .inr q
    case rest =>
      rintro σ ν ⟨rfl, f, hf, rfl, h1, h2⟩
      have e : f = m := Rat.le_antisymm (hle f hf) ((h1 m hm).elim id fun q => by cases q)
      subst e
      exact ExS.retW (by ktd_rel)
end
-- part P4
/-- the part i of a datum -/
def D.nth (i : Nat) : D → D
  | .tup l => l.getD i .none
  | _ => .none
def D.last : D → D
  | .tup l => l.getLastD .none
  | _ => .none
def pd (p : Pt) : D := .tup [qd p.1, qd p.2]
def bd (B : Box) : D := .tup [qd B.l, qd B.t, qd B.r, qd B.b]
def PSz (k : Nat) (p : Pt) : Prop := Sz k p.1 ∧ Sz k p.2
theorem PSz.mono {k j : Nat} {p : Pt} (h : PSz k p) (hk : k ≤ j) : PSz j p := ⟨h.1.mono hk, h.2.mono hk⟩
section
variable {w : World} {mean : ExcName → Option Value} {mg mb : Str → Option Value} {μ : Mu}
theorem map_nth (ps : List Pt) : (ps.map pd).map (D.nth 0) = (ps.map (·.1)).map qd ∧ (ps.map pd).map (D.nth 1) = (ps.map (·.2)).map qd := by
  constructor <;> · rw [List.map_map, List.map_map]; rfl
theorem point_box_spec {k : Nat} (ps : List Pt) (B : Box) (hB : IsBox ps B) (hs : ∀ p ∈ ps, PSz k p) (hk : k ≤ 50000) (hl : ps.length ≤ 1000) : CallS (G w mean mg mb) 4 μ (.ref 166) [.lst (ps.map pd)] (bd B) μ := by
  refine' CallS.def_ (n := 3) (ex := []) (dex := []) (xs := [Str.ofString "points"]) (σ' := []) (by k_mem) (by k_mem) ?h3 (fun _ => .nil) rfl (by decide) ?h4 ?h5 rfl rfl rfl
  case h3 => intro s vs X hl; match vs, hl with | [v0], _ => first | exact BindsTo.of_eq rfl | exact binds_K X rfl (by k_mem) rfl rfl rfl
  case h4 => decide
  case h5 =>
    refine' ExS.cons (xAssign2 (a := .lst ((ps.map (·.1)).map qd)) (b := .lst ((ps.map (·.2)).map qd)) ?a ?b ?c ?d ?e) ?rest
    case a =>
      refine' eTup (ds := [.lst ((ps.map (·.1)).map qd), .lst ((ps.map (·.2)).map qd)]) (lCons ?p1 (lCons ?p2 EvL.nil ?q2) ?q1) ?sz
      case p1 =>
        rw [← (map_nth ps).1]
        refine' eMap (D.nth 0) ?hi1 ?hd1 ?hsz1 ?hx1 ?hn1 ?N1 ?hns1 ?hsm1 ?hs1 ?h1
        case hi1 => ktd_rel
        case hd1 => exact rfl
        case hsz1 => simpa using hl
        case hx1 => first | exact .inl rfl | exact .inr rfl
        case hn1 => exact rfl
        case N1 => exact CompNames.mk'
        case hns1 => first | exact .inl rfl | exact .inr rfl
        case hsm1 => first | (intro a b h; cases h; done) | (intro a b h; cases h; omega)
        case hs1 => exact fun _ _ => rfl
        case h1 =>
          intro d hd
          obtain ⟨p, hp, rfl⟩ := List.mem_map.mp hd
          unfold pd
          ktd_rel
      case p2 =>
        rw [← (map_nth ps).2]
        refine' eMap (D.nth 1) ?hi2 ?hd2 ?hsz2 ?hx2 ?hn2 ?N2 ?hns2 ?hsm2 ?hs2 ?h2
        case hi2 => ktd_rel
        case hd2 => exact rfl
        case hsz2 => simpa using hl
        case hx2 => first | exact .inl rfl | exact .inr rfl
        case hn2 => exact rfl
        case N2 => exact CompNames.mk'
        case hns2 => first | exact .inl rfl | exact .inr rfl
        case hsm2 => first | (intro a b h; cases h; done) | (intro a b h; cases h; omega)
        case hs2 => exact fun _ _ => rfl
        case h2 =>
          intro d hd
          obtain ⟨p, hp, rfl⟩ := List.mem_map.mp hd
          unfold pd
          ktd_rel
      case q2 => exact fun _ => rfl
      case q1 => exact fun _ => rfl
      case sz => exact Nat.le_of_ble_eq_true rfl
    case b => exact rfl
    case c => exact rfl
    case d => exact fun _ _ => rfl
    case e => exact fun e h => by cases e; cases h; rfl
    case rest =>
      have s1 : ∀ r ∈ ps.map (·.1), Sz k r := fun r hr => by obtain ⟨p, hp, rfl⟩ := List.mem_map.mp hr; exact (hs p hp).1
      have s2 : ∀ r ∈ ps.map (·.2), Sz k r := fun r hr => by obtain ⟨p, hp, rfl⟩ := List.mem_map.mp hr; exact (hs p hp).2
      have c1 := least_spec (w := w) (mean := mean) (mg := mg) (mb := mb) (μ := μ) _ B.l hB.l (fun x hx => by obtain ⟨p, hp, rfl⟩ := List.mem_map.mp hx; exact (hB.all p hp).1) s1 hk
      have c2 := least_spec (w := w) (mean := mean) (mg := mg) (mb := mb) (μ := μ) _ B.t hB.t (fun x hx => by obtain ⟨p, hp, rfl⟩ := List.mem_map.mp hx; exact (hB.all p hp).2.1) s2 hk
      have c3 := greatest_spec (w := w) (mean := mean) (mg := mg) (mb := mb) (μ := μ) _ B.r hB.r (fun x hx => by obtain ⟨p, hp, rfl⟩ := List.mem_map.mp hx; exact (hB.all p hp).2.2.1) s1 hk
      have c4 := greatest_spec (w := w) (mean := mean) (mg := mg) (mb := mb) (μ := μ) _ B.b hB.b (fun x hx => by obtain ⟨p, hp, rfl⟩ := List.mem_map.mp hx; exact (hB.all p hp).2.2.2) s2 hk
      refine ExS.retW ?_
      unfold bd
      ktd_rel
end
-- part P5
def half : Rat := mkRat 1 2
theorem qd_half : qd half = .tup [.int 1, .int 2] := by
  have h1 : half.num = 1 := by decide +kernel
  have h2 : half.den = 2 := by decide +kernel
  unfold qd; rw [h1, h2]; rfl
theorem half_sz : Sz 2 half := by
  have h1 : half.num = 1 := by decide +kernel
  have h2 : half.den = 2 := by decide +kernel
  unfold Sz; rw [h1, h2]; decide
theorem half_eq : half = 1 / 2 := by unfold half; decide +kernel
theorem mix_eq (a b : Rat) : a + half * (b - a) = (a + b) / 2 := by rw [half_eq]; grind
theorem mid_sz {k : Nat} {p q : Pt} (hp : PSz k p) (hq : PSz k q) : PSz (3 * k + 4) (mid p q) := by
  refine ⟨?_, ?_⟩
  · show Sz _ ((p.1 + q.1) / 2)
    rw [← mix_eq]
    exact (hp.1.add (half_sz.mul (hq.1.sub hp.1))).mono (by omega)
  · show Sz _ ((p.2 + q.2) / 2)
    rw [← mix_eq]
    exact (hp.2.add (half_sz.mul (hq.2.sub hp.2))).mono (by omega)
/-- how the sizes grow -/
def gr : Nat → Nat → Nat
  | 0, k => k
  | n + 1, k => gr n (3 * k + 4)
theorem le_gr : ∀ n k, k ≤ gr n k
  | 0, _ => Nat.le_refl _
  | n + 1, k => Nat.le_trans (by omega) (le_gr n (3 * k + 4))
theorem mids_sz {k : Nat} : ∀ c : List Pt, (∀ p ∈ c, PSz k p) → ∀ p ∈ mids c, PSz (3 * k + 4) p
  | [], _, p, hp => by cases hp
  | [_], _, p, hp => by cases hp
  | a :: b :: r, h, p, hp => by
    simp only [mids, List.mem_cons] at hp
    rcases hp with rfl | hp
    · exact mid_sz (h a (by simp)) (h b (by simp))
    · exact mids_sz (b :: r) (fun q hq => h q (by simp at hq ⊢; exact .inr hq)) p hp
theorem rows_sz : ∀ n (c : List Pt) k, (∀ p ∈ c, PSz k p) → ∀ r ∈ rowsN n c, ∀ p ∈ r, PSz (gr n k) p
  | 0, c, k, h, r, hr => by simp [rowsN] at hr; subst hr; exact h
  | n + 1, c, k, h, r, hr => by
    simp only [rowsN, List.mem_cons] at hr
    rcases hr with rfl | hr
    · exact fun p hp => (h p hp).mono (le_gr (n + 1) k)
    · exact rows_sz n (mids c) _ (mids_sz c h) r hr
def td (c : List Pt) : D := .tup (c.map pd)
theorem mem_rng {d : D} {m : Nat} (h : d ∈ rngItems 0 m) : ∃ i : Nat, i < m ∧ d = .int i := by
  obtain ⟨i, hi, rfl⟩ := List.mem_map.mp h
  exact ⟨i, List.mem_range.mp hi, by simp⟩
theorem rng_map {α : Type} (m : Nat) (f : D → α) : (rngItems 0 m).map f = (List.range m).map fun (i : Nat) => f (.int (i : Int)) := by
  unfold rngItems
  rw [List.map_map]
  apply List.map_congr_left
  intro i _
  simp
def midF (cur : List Pt) : D → D
  | .int i => pd (mid (cur.getD i.toNat (0, 0)) (cur.getD (i.toNat + 1) (0, 0)))
  | d => d
theorem midF_map (cur : List Pt) : (rngItems 0 (cur.length - 1)).map (midF cur) = (mids cur).map pd := by
  rw [rng_map]
  apply List.ext_getElem
  · simp [mids_length]
  · intro i h1 h2
    have hi : i < cur.length - 1 := by simpa using h1
    have a1 : cur[i]? = some cur[i] := by simp
    have a2 : cur[i + 1]? = some cur[i + 1] := by simp
    have := mids_get cur i _ _ a1 a2
    have hm : i < (mids cur).length := by rw [mids_length]; exact hi
    have e : (mids cur)[i] = mid cur[i] cur[i + 1] := by
      have h := List.getElem?_eq_getElem hm
      rw [this] at h
      exact (Option.some.inj h).symm
    simp only [List.getElem_map, List.getElem_range, midF, e, Int.toNat_natCast]
    rw [List.getD_eq_getElem?_getD, List.getD_eq_getElem?_getD, a1, a2]
    rfl
section
variable {w : World} {mean : ExcName → Option Value} {mg mb : Str → Option Value} {μ : Mu}
theorem mixed_spec {k : Nat} (p q : Pt) (hp : PSz k p) (hq : PSz k q) (hk : 3 * k + 4 ≤ 9000) : CallS (G w mean mg mb) 4 μ (.ref 117) [pd p, pd q, .tup [.int 1, .int 2]] (pd (mid p q)) μ := by
  rw [← qd_half]
  refine' CallS.def_ (n := 3) (ex := []) (dex := []) (xs := [Str.ofString "p", Str.ofString "q", Str.ofString "t"]) (σ' := []) (by k_mem) (by k_mem) ?h3 (fun _ => .nil) rfl (by decide) ?h4 ?h5 rfl rfl rfl
  case h3 => intro s vs X hl; match vs, hl with | [v0, v1, v2], _ => first | exact BindsTo.of_eq rfl | exact binds_K X rfl (by k_mem) rfl rfl rfl
  case h4 => decide
  case h5 =>
    have e1 := minus_spec (w := w) (mean := mean) (mg := mg) (mb := mb) (μ := μ) q.1 p.1 hq.1 hp.1 (by omega)
    have e2 := minus_spec (w := w) (mean := mean) (mg := mg) (mb := mb) (μ := μ) q.2 p.2 hq.2 hp.2 (by omega)
    have f1 := times_spec (w := w) (mean := mean) (mg := mg) (mb := mb) (μ := μ) half (q.1 - p.1) half_sz (hq.1.sub hp.1) (by omega)
    have f2 := times_spec (w := w) (mean := mean) (mg := mg) (mb := mb) (μ := μ) half (q.2 - p.2) half_sz (hq.2.sub hp.2) (by omega)
    have g1 := plus_spec (w := w) (mean := mean) (mg := mg) (mb := mb) (μ := μ) p.1 (half * (q.1 - p.1)) hp.1 (half_sz.mul (hq.1.sub hp.1)) (by omega)
    have g2 := plus_spec (w := w) (mean := mean) (mg := mg) (mb := mb) (μ := μ) p.2 (half * (q.2 - p.2)) hp.2 (half_sz.mul (hq.2.sub hp.2)) (by omega)
    have e : pd (mid p q) = .tup [qd (p.1 + half * (q.1 - p.1)), qd (p.2 + half * (q.2 - p.2))] := by
      rw [mix_eq, mix_eq]; rfl
    rw [e]
    unfold pd
    refine ExS.retW ?_
    ktd_rel
theorem lst_cons {α : Type} (l : List α) (h : 0 < l.length) : ∃ l' a, l = l' ++ [a] := by
  have h0 : l ≠ [] := fun e => by rw [e] at h; exact Nat.lt_irrefl _ h
  exact ⟨_, _, (List.dropLast_concat_getLast h0).symm⟩
theorem steps_spec {k : Nat} (c : List Pt) (hc : 0 < c.length) (hs : ∀ p ∈ c, PSz k p) (hk : gr (c.length - 1) k ≤ 9000) (hl : c.length ≤ 100) : CallS (G w mean mg mb) 5 μ (.ref 122) [td c, .tup [.int 1, .int 2]] (.lst ((rowsOf c).map td)) μ := by
  refine' CallS.def_ (n := 4) (ex := []) (dex := []) (xs := [Str.ofString "curve", Str.ofString "t"]) (σ' := []) (by k_mem) (by k_mem) ?h3 (fun _ => .nil) rfl (by decide) ?h4 ?h5 rfl rfl rfl
  case h3 => intro s vs X hl; match vs, hl with | [v0, v1], _ => first | exact BindsTo.of_eq rfl | exact binds_K X rfl (by k_mem) rfl rfl rfl
  case h4 => decide
  case h5 =>
    refine' ExS.newList (ds := [td c]) (lCons ?a1 EvL.nil ?a2) ?a3 ?a4 ?a5
    case a1 =>
      unfold td
      ktd_rel
    case a2 => exact fun _ => rfl
    case a3 => exact .inl rfl
    case a4 => exact Nat.le_of_ble_eq_true rfl
    case a5 =>
    intro a ha
    refine' xWhile (fun m σ ν => ∃ (done : List (List Pt)) (cur : List Pt) (k' : Nat), ν = μ.put a ((done ++ [cur]).map td) ∧ σ = [((Str.ofString "t"), .tup [.int 1, .int 2]), ((Str.ofString "rows"), .mref a)] ∧ m = cur.length - 1 ∧ 0 < cur.length ∧ cur.length ≤ 100 ∧ done.length + cur.length ≤ 100 ∧ (∀ p ∈ cur, PSz k' p) ∧ gr (cur.length - 1) k' ≤ 9000 ∧ done ++ rowsN (cur.length - 1) cur = rowsOf c) (c.length - 1) [((Str.ofString "t"), .tup [.int 1, .int 2]), ((Str.ofString "rows"), .mref a)] ?hw ?h0 ?step
    case hw => exact Sub2 rfl rfl
    case h0 => exact ⟨[], c, k, rfl, rfl, rfl, hc, hl, by simpa using hl, hs, hk, rfl⟩
    case step =>
      rintro m σ ν ⟨done, cur, k', rfl, rfl, rfl, h1, h2, h3, h4, h5, h6⟩
      have hp : pick (-1) ((done ++ [cur]).map td) = some (td cur) := by rw [List.map_append]; exact pick_last
      have hm : (μ.put a ((done ++ [cur]).map td)) a = some ((done ++ [cur]).map td) := Mu.put_self ..
      have hlen : (cur.map pd).length ≤ 1000 := by simp; omega
      have hcl := call_lenT (g := G w mean mg mb) (n := 4) (μ := μ.put a ((done ++ [cur]).map td)) hlen
      rw [List.length_map] at hcl
      have hnot : pick (-1) ((done ++ [cur]).map td) = some (.tup (cur.map pd)) := hp
      by_cases hgt : (1 : Int) < cur.length
      · refine' wStep [((Str.ofString "t"), .tup [.int 1, .int 2]), ((Str.ofString "rows"), .mref a)] ((mids cur).length - 1) (TsS.to ?t1 (boolT hgt)) ?b1 ?s1 ?m1 ?i1
        case t1 => k_all
        case b1 =>
          k_updF
          refine' ExS.cons (Ex1.append (a := a) (ds := (done ++ [cur]).map td) (d := td (mids cur)) ?o ?e ?m0 ?m ?sz) ExS.nil
          case o => ktd_rel
          case m0 => rw [hm]; simp
          case m => exact hm
          case sz => simp; omega
          case e =>
            have hc2 : CallS (G w mean mg mb) 4 (μ.put a ((done ++ [cur]).map td)) (.type "tuple") [.lst ((rngItems 0 (cur.length - 1)).map (midF cur))] (td (mids cur)) (μ.put a ((done ++ [cur]).map td)) := by
              rw [midF_map]
              exact call_tupL (by rw [List.length_map, mids_length]; omega)
            have hr : CallS (G w mean mg mb) 4 (μ.put a ((done ++ [cur]).map td)) (.type "range") [.int ((cur.length : Int) - 1)] (.rng 0 (cur.length - 1)) (μ.put a ((done ++ [cur]).map td)) := by
              have : ((cur.length : Int) - 1) = ((cur.length - 1 : Nat) : Int) := by omega
              rw [this]; exact call_range1
            refine' eCall ?x1 rfl (lCons ?y1 EvL.nil ?y2) hc2 ?x2 ?x3 ?x4
            case x1 => k_mem
            case x2 => decide
            case x3 => exact fun _ => rfl
            case x4 => exact fun _ => rfl
            case y2 => exact fun _ => rfl
            case y1 =>
              refine' eMap (midF cur) ?hi7 ?hd7 ?hsz7 ?hx7 ?hn7 ?N7 ?hns7 ?hsm7 ?hs7 ?h7
              case hi7 => ktd_rel
              case hd7 => exact rfl
              case hsz7 => simp [rngItems]; omega
              case hx7 => first | exact .inl rfl | exact .inr rfl
              case hn7 => exact rfl
              case N7 => exact CompNames.mk'
              case hns7 => first | exact .inl rfl | exact .inr rfl
              case hsm7 => first | (intro a b h; cases h; done) | (intro a b h; cases h; omega)
              case hs7 => exact fun _ _ => rfl
              case h7 =>
                intro d hd
                obtain ⟨i, hi, rfl⟩ := mem_rng hd
                have a1 : cur[i]? = some cur[i] := by simp
                have a2 : cur[i + 1]? = some cur[i + 1] := by simp
                have q1 : pick (i : Int) (cur.map pd) = some (pd cur[i]) := pick_nat (by rw [List.getElem?_map, a1]; rfl)
                have q2 : pick ((i : Int) + 1) (cur.map pd) = some (pd cur[i + 1]) := pick_nat (i := i + 1) (by rw [List.getElem?_map, a2]; rfl)
                have hc3 := mixed_spec (w := w) (mean := mean) (mg := mg) (mb := mb) (μ := μ.put a ((done ++ [cur]).map td)) cur[i] cur[i + 1] (h4 _ (List.getElem_mem _)) (h4 _ (List.getElem_mem _)) (by
                  have := le_gr (cur.length - 2) (3 * k' + 4)
                  have e : cur.length - 1 = cur.length - 2 + 1 := by omega
                  rw [e] at h5
                  exact Nat.le_trans this h5)
                have e : midF cur (.int i) = pd (mid cur[i] cur[i + 1]) := by
                  simp only [midF, Int.toNat_natCast]
                  rw [List.getD_eq_getElem?_getD, List.getD_eq_getElem?_getD, a1, a2]
                  rfl
                rw [e]
                ktd_rel
        case s1 => exact Sub2 rfl rfl
        case m1 => rw [mids_length]; omega
        case i1 =>
          have e : cur.length - 1 = (mids cur).length - 1 + 1 := by rw [mids_length]; omega
          refine ⟨done ++ [cur], mids cur, 3 * k' + 4, ?_, rfl, rfl, ?_, ?_, ?_, mids_sz cur h4, ?_, ?_⟩
          · rw [Mu.put_put]; congr 1; simp
          · rw [mids_length]; omega
          · rw [mids_length]; omega
          · rw [mids_length, List.length_append]; simp; omega
          · rw [e] at h5; exact h5
          · rw [← h6, e]; simp [rowsN]
      · have e1 : cur.length - 1 = 0 := by omega
        refine' .inr ⟨TsS.to ?t1 (boolF hgt), ?r1⟩
        case t1 => k_all
        case r1 =>
          have e2 : done ++ [cur] = rowsOf c := by rw [← h6, e1]; rfl
          rw [← e2]
          have e3 : (μ.put a ((done ++ [cur]).map td)).del a = μ := Mu.del_put _ _ _ ha
          refine' xRetM ?z1 hm e3
          case z1 => ktd_rel
end
-- part P6
def D.its : D → List D
  | .tup l => l
  | _ => []
theorem nth_td {r : List Pt} (h : 0 < r.length) : (td r).nth 0 = pd (fstP r) := by
  match r, h with
  | a :: r, _ => rfl
theorem last_td {r : List Pt} (h : 0 < r.length) : (td r).last = pd (lstP r) := by
  obtain ⟨l, a, rfl⟩ := lst_cons r h
  show ((l ++ [a]).map pd).getLastD .none = pd ((l ++ [a]).getLastD (0, 0))
  simp
theorem map_fst {c : List Pt} (h : 0 < c.length) : ((rowsOf c).map td).map (D.nth 0) = (lefts c).map pd := by
  unfold lefts
  rw [List.map_map, List.map_map]
  exact List.map_congr_left fun r hr => nth_td (rowsN_len _ c (by omega) r hr)
theorem map_lst {c : List Pt} (h : 0 < c.length) : ((rowsOf c).map td).reverse.map D.last = (rights c).map pd := by
  unfold rights
  rw [← List.map_reverse, List.map_map, List.map_map]
  exact List.map_congr_left fun r hr => last_td (rowsN_len _ c (by omega) r (List.mem_reverse.mp hr))
/-- how the sizes grow, halving by halving -/
def grd (n : Nat) : Nat → Nat → Nat
  | 0, k => k
  | d + 1, k => gr n (grd n d k)
theorem lefts_sz {k : Nat} {c : List Pt} (hc : 0 < c.length) (h : ∀ p ∈ c, PSz k p) : ∀ p ∈ lefts c, PSz (gr (c.length - 1) k) p := by
  intro p hp
  obtain ⟨r, hr, rfl⟩ := List.mem_map.mp hp
  exact rows_sz _ c k h r hr _ (fstP_mem (rowsN_len _ c (by omega) r hr))
theorem rights_sz {k : Nat} {c : List Pt} (hc : 0 < c.length) (h : ∀ p ∈ c, PSz k p) : ∀ p ∈ rights c, PSz (gr (c.length - 1) k) p := by
  intro p hp
  obtain ⟨r, hr, rfl⟩ := List.mem_map.mp hp
  exact rows_sz _ c k h r (List.mem_reverse.mp hr) _ (lstP_mem (rowsN_len _ c (by omega) r (List.mem_reverse.mp hr)))
theorem parts_sz {k : Nat} {c : List Pt} (hc : 0 < c.length) (h : ∀ p ∈ c, PSz k p) : ∀ d, ∀ b ∈ parts c d, ∀ p ∈ b, PSz (grd (c.length - 1) d k) p
  | 0, b, hb => by simp [parts] at hb; subst hb; exact h
  | d + 1, b, hb => by
    obtain ⟨a, ha, hb⟩ := List.mem_flatMap.mp hb
    have la := parts_len hc d a ha
    have ih := parts_sz hc h d a ha
    have e : gr (a.length - 1) (grd (c.length - 1) d k) = grd (c.length - 1) (d + 1) k := by rw [la]; rfl
    simp only [List.mem_cons, List.not_mem_nil, or_false] at hb
    rcases hb with rfl | rfl
    · rw [← e]; exact lefts_sz (by omega) ih
    · rw [← e]; exact rights_sz (by omega) ih
theorem grd_le (n k : Nat) : ∀ d e, d ≤ e → grd n d k ≤ grd n e k := by
  intro d e h
  induction e with
  | zero => have : d = 0 := by omega
            subst this; exact Nat.le_refl _
  | succ e ih =>
    by_cases q : d = e + 1
    · subst q; exact Nat.le_refl _
    · exact Nat.le_trans (ih (by omega)) (le_gr n _)
section
variable {w : World} {mean : ExcName → Option Value} {mg mb : Str → Option Value} {μ : Mu}
theorem split_spec {k : Nat} (c : List Pt) (hc : 0 < c.length) (hs : ∀ p ∈ c, PSz k p) (hk : gr (c.length - 1) k ≤ 9000) (hl : c.length ≤ 100) : CallS (G w mean mg mb) 6 μ (.ref 127) [td c, .tup [.int 1, .int 2]] (.tup [td (lefts c), td (rights c)]) μ := by
  refine' CallS.def_ (n := 5) (ex := []) (dex := []) (xs := [Str.ofString "curve", Str.ofString "t"]) (σ' := []) (by k_mem) (by k_mem) ?h3 (fun _ => .nil) rfl (by decide) ?h4 ?h5 rfl rfl rfl
  case h3 => intro s vs X hl; match vs, hl with | [v0, v1], _ => first | exact BindsTo.of_eq rfl | exact binds_K X rfl (by k_mem) rfl rfl rfl
  case h4 => decide
  case h5 =>
    have hst := steps_spec (w := w) (mean := mean) (mg := mg) (mb := mb) (μ := μ) c hc hs hk hl
    have hrl : (rowsOf c).length = c.length := by unfold rowsOf; rw [rowsN_length]; omega
    have hsz : ((rowsOf c).map td).length ≤ 1000 := by rw [List.length_map, hrl]; omega
    have c1 : CallS (G w mean mg mb) 5 μ (.type "tuple") [.lst (((rowsOf c).map td).map (D.nth 0))] (td (lefts c)) μ := by
      rw [map_fst hc]; exact call_tupL (by rw [List.length_map, lefts_length hc]; omega)
    have c2 : CallS (G w mean mg mb) 5 μ (.type "tuple") [.lst (((rowsOf c).map td).reverse.map D.last)] (td (rights c)) μ := by
      rw [map_lst hc]; exact call_tupL (by rw [List.length_map, rights_length hc]; omega)
    k_updF
    refine ExS.retW ?_
    refine' eTup (lCons ?p1 (lCons ?p2 EvL.nil ?q2) ?q1) ?sz
    case p1 =>
      refine' eCall ?x1 rfl (lCons ?y1 EvL.nil ?y2) c1 ?x2 ?x3 ?x4
      case x1 => k_mem
      case x2 => decide
      case x3 => exact fun _ => rfl
      case x4 => exact fun _ => rfl
      case y2 => exact fun _ => rfl
      case y1 =>
        refine' eMap (D.nth 0) ?hi7 ?hd7 ?hsz7 ?hx7 ?hn7 ?N7 ?hns7 ?hsm7 ?hs7 ?h7
        case hi7 => ktd_rel
        case hd7 => exact rfl
        case hsz7 => exact hsz
        case hx7 => first | exact .inl rfl | exact .inr rfl
        case hn7 => exact rfl
        case N7 => exact CompNames.mk'
        case hns7 => first | exact .inl rfl | exact .inr rfl
        case hsm7 => first | (intro a b h; cases h; done) | (intro a b h; cases h; omega)
        case hs7 => exact fun _ _ => rfl
        case h7 =>
          intro d hd
          obtain ⟨r, hr, rfl⟩ := List.mem_map.mp hd
          have h0 := rowsN_len _ c (by omega) r hr
          rw [nth_td h0]
          obtain ⟨a, r', rfl⟩ : ∃ a r', r = a :: r' := by cases r with | nil => exact absurd h0 (Nat.lt_irrefl _) | cons a b => exact ⟨a, b, rfl⟩
          have hp : pick 0 ((a :: r').map pd) = some (pd (fstP (a :: r'))) := pick_zero
          unfold td
          ktd_rel
    case p2 =>
      refine' eCall ?x1 rfl (lCons ?y1 EvL.nil ?y2) c2 ?x2 ?x3 ?x4
      case x1 => k_mem
      case x2 => decide
      case x3 => exact fun _ => rfl
      case x4 => exact fun _ => rfl
      case y2 => exact fun _ => rfl
      case y1 =>
        refine' eMap (D.last) ?hi7 ?hd7 ?hsz7 ?hx7 ?hn7 ?N7 ?hns7 ?hsm7 ?hs7 ?h7
        case hi7 => ktd_rel
        case hd7 => exact rfl
        case hsz7 => rw [List.length_reverse]; exact hsz
        case hx7 => first | exact .inl rfl | exact .inr rfl
        case hn7 => exact rfl
        case N7 => exact CompNames.mk'
        case hns7 => first | exact .inl rfl | exact .inr rfl
        case hsm7 => first | (intro a b h; cases h; done) | (intro a b h; cases h; omega)
        case hs7 => exact fun _ _ => rfl
        case h7 =>
          intro d hd
          obtain ⟨r, hr, rfl⟩ := List.mem_map.mp (List.mem_reverse.mp hd)
          have h0 := rowsN_len _ c (by omega) r hr
          rw [last_td h0]
          obtain ⟨l, a, rfl⟩ := lst_cons r h0
          have hp : pick (-1) ((l ++ [a]).map pd) = some (pd (lstP (l ++ [a]))) := by
            rw [List.map_append]
            have e : lstP (l ++ [a]) = a := by simp [lstP]
            rw [e]; exact pick_last
          unfold td
          ktd_rel
    case q1 => exact fun _ => rfl
    case q2 => exact fun _ => rfl
    case sz => exact Nat.le_of_ble_eq_true rfl
end
-- part P7
def idD (_ e : D) : D := e
theorem flat_td (ps : List (List Pt)) : ((ps.map td).flatMap fun d => (d.its).map (idD d)) = ps.flatten.map pd := by
  induction ps with
  | nil => rfl
  | cons c r ih =>
    rw [List.map_cons, List.flatMap_cons, ih, List.flatten_cons, List.map_append]
    congr 1
    show (c.map pd).map (idD (td c)) = c.map pd
    rw [List.map_map]; rfl
theorem map_first {c : List Pt} (hc : 0 < c.length) (d : Nat) : ((parts c d).map td).map (D.nth 0) = ((parts c d).map fstP).map pd := by
  rw [List.map_map, List.map_map]
  exact List.map_congr_left fun r hr => nth_td (by rw [parts_len hc d r hr]; exact hc)
section
variable {w : World} {mean : ExcName → Option Value} {mg mb : Str → Option Value} {μ : Mu}
theorem curve_box_spec {k : Nat} (c : List Pt) (dep : Nat) (B : Box) (hB : IsBox (parts c dep).flatten B) (hc : 0 < c.length) (hl : c.length ≤ 4) (hd : dep ≤ 2) (hs : ∀ p ∈ c, PSz k p) (hk : grd (c.length - 1) dep k ≤ 9000) : CallS (G w mean mg mb) 8 μ (.ref 172) [td c, .int dep] (bd B) μ := by
  refine' CallS.def_ (n := 7) (ex := []) (dex := []) (xs := [Str.ofString "curve", Str.ofString "depth"]) (σ' := []) (by k_mem) (by k_mem) ?h3 (fun _ => .nil) rfl (by decide) ?h4 ?h5 rfl rfl rfl
  case h3 => intro s vs X hl; match vs, hl with | [v0, v1], _ => first | exact BindsTo.of_eq rfl | exact binds_K X rfl (by k_mem) rfl rfl rfl
  case h4 => decide
  case h5 =>
    refine' ExS.cons (xAssign (d := .lst ((parts c 0).map td)) ?a ?b ?c) ?rest0
    case a =>
      show EvS _ _ _ _ _ _ (.lst [td c]) _
      have hc1 : CallS (G w mean mg mb) 7 μ (.type "tuple") [td c] (td c) μ := call_tupT
      ktd_rel
    case b => exact .inl rfl
    case c => exact fun _ _ => rfl
    case rest0 =>
    have hr : CallS (G w mean mg mb) 7 μ (.type "range") [.int dep] (.rng 0 dep) μ := call_range1
    refine' xFor (fun done rest σ ν => ν = μ ∧ done.length + rest.length = dep ∧ σ = [((Str.ofString "parts"), .lst ((parts c done.length).map td)), ((Str.ofString "curve"), td c), ((Str.ofString "depth"), .int dep)]) [((Str.ofString "parts"), .lst ((parts c 0).map td)), ((Str.ofString "curve"), td c), ((Str.ofString "depth"), .int dep)] ?hi ?hd ?hsm ?hs ?hw ?h0 ?step ?rest
    case hi => ktd_rel
    case hd => exact rfl
    case hsm => intro a b h; cases h; omega
    case hs => exact fun _ _ => rfl
    case hw => exact Sub3 rfl rfl rfl
    case h0 => exact ⟨rfl, by simp [rngItems], rfl⟩
    case step =>
      rintro done d rest σ ν ⟨rfl, hlen, rfl⟩
      rw [List.length_cons] at hlen
      refine' fStep [((Str.ofString "parts"), .lst ((parts c (done ++ [d]).length).map td)), ((Str.ofString "curve"), td c), ((Str.ofString "depth"), .int dep)] (AsS.name (.inl rfl)) (σ₂ := [((Str.ofString "parts"), .lst ((parts c (done ++ [d]).length).map td)), ((Str.ofString "curve"), td c), ((Str.ofString "depth"), .int dep)]) ?body ?sub ⟨rfl, ?len, rfl⟩
      case sub => exact Sub.refl
      case len => rw [List.length_append]; simp; omega
      case body =>
        refine' ExS.newList (ds := []) EvL.nil ?b3 ?b4 ?b5
        case b3 => exact .inl rfl
        case b4 => exact Nat.le_of_ble_eq_true rfl
        case b5 =>
        intro a ha
        have hn2 : (parts c done.length).length ≤ 4 := by
          rw [parts_count]
          have : done.length ≤ 2 := by omega
          exact (show 2 ^ done.length ≤ 2 ^ 2 from Nat.pow_le_pow_right (by decide) this)
        refine' xFor (fun done2 rest2 σ2 ν2 => ∃ p1 p2 : List (List Pt), p1 ++ p2 = parts c done.length ∧ rest2 = p2.map td ∧ ν2 = ν.put a ((cut1 p1).map td) ∧ σ2 = [((Str.ofString "halved"), .mref a), ((Str.ofString "parts"), .lst ((parts c done.length).map td)), ((Str.ofString "curve"), td c), ((Str.ofString "depth"), .int dep)]) [((Str.ofString "halved"), .mref a), ((Str.ofString "parts"), .lst ((parts c done.length).map td)), ((Str.ofString "curve"), td c), ((Str.ofString "depth"), .int dep)] ?hiB ?hdB ?hsmB ?hsB ?hwB ?h0B ?stepB ?restB
        case hiB => ktd_rel
        case hdB => exact rfl
        case hsmB => intro a b h; cases h
        case hsB => exact fun _ _ => rfl
        case hwB => exact Sub4 rfl rfl rfl rfl
        case h0B => exact ⟨[], _, rfl, rfl, rfl, rfl⟩
        case stepB =>
          rintro done2 d2 rest2 σ2 ν2 ⟨p1, p2, hp, hr2, rfl, rfl⟩
          cases p2 with
          | nil => cases hr2
          | cons b p2 =>
          rw [List.map_cons] at hr2
          injection hr2 with e1 e2
          subst e1 e2
          have hb : b ∈ parts c done.length := by rw [← hp]; simp
          have lb := parts_len hc done.length b hb
          have hcs := split_spec (w := w) (mean := mean) (mg := mg) (mb := mb) (μ := ν.put a ((cut1 p1).map td)) b (by omega) (parts_sz hc hs done.length b hb) (by
            rw [lb]
            exact Nat.le_trans (grd_le (c.length - 1) k (done.length + 1) dep (by omega)) hk) (by omega)
          have hcs7 := hcs.more (m := 7) (by decide)
          have hm : (ν.put a ((cut1 p1).map td)) a = some ((cut1 p1).map td) := Mu.put_self ..
          have hlp : p1.length ≤ 4 := by
            have := congrArg List.length hp
            rw [List.length_append, List.length_cons] at this; omega
          have hcl : (cut1 p1).length = p1.length * 2 := by
            clear hp hlp hm hcs hcs7
            induction p1 with
            | nil => rfl
            | cons a r ih => simp only [cut1, List.flatMap_cons, List.length_append, List.length_cons, List.length_nil] at ih ⊢; omega
          refine' fStep [((Str.ofString "halved"), .mref a), ((Str.ofString "parts"), .lst ((parts c done.length).map td)), ((Str.ofString "curve"), td c), ((Str.ofString "depth"), .int dep)] (AsS.name (.inl rfl)) ?b ?s ?q
          case b =>
            refine' ExS.cons (Ex1.extend (a := a) (ds := (cut1 p1).map td) (es := [td (lefts b), td (rights b)]) ?o ?e ?m0 ?m ?sz) ExS.nil
            case o => ktd_rel
            case e => ktd_rel
            case m0 => rw [hm]; simp
            case m => exact hm
            case sz => rw [List.length_map, hcl]; simp; omega
          case s => exact Sub4 rfl rfl rfl rfl
          case q =>
            refine ⟨p1 ++ [b], p2, by simpa using hp, rfl, ?_, rfl⟩
            rw [Mu.put_put]
            congr 1
            simp [cut1]
        case restB =>
          rintro σe μe ⟨p1, p2, hp, hr2, rfl, rfl⟩
          have e2 : p2 = [] := by
            cases p2 with
            | nil => rfl
            | cons b p => cases hr2
          subst e2
          rw [List.append_nil] at hp
          have ep : cut1 p1 = parts c (done ++ [d]).length := by rw [hp, List.length_append]; rfl
          have hm : (ν.put a ((cut1 p1).map td)) a = some ((cut1 p1).map td) := Mu.put_self ..
          refine' ExS.weak (ExS.cons (xTake ?e hm ?x ?s (Mu.del_put _ _ _ ha)) ExS.nil) ?sub
          case e => ktd_rel
          case x => exact .inl rfl
          case s => exact fun _ _ => rfl
          case sub => rw [ep]; exact Sub3 rfl rfl rfl
    case rest =>
      rintro σe μe ⟨rfl, hlen, rfl⟩
      have e : (rngItems 0 dep).length = dep := by simp [rngItems]
      rw [e]
      have hpb := point_box_spec (w := w) (mean := mean) (mg := mg) (mb := mb) (μ := μe) _ B hB (fun p hp => by
        obtain ⟨b, hb, hp⟩ := List.mem_flatten.mp hp
        exact parts_sz hc hs dep b hb p hp) (by omega) (by
          rw [parts_flat_len hc]
          have : 2 ^ dep ≤ 4 := (show 2 ^ dep ≤ 2 ^ 2 from Nat.pow_le_pow_right (by decide) hd)
          have : 2 ^ dep * c.length ≤ 4 * 4 := Nat.mul_le_mul this hl
          omega)
      have hpb7 := hpb.more (m := 7) (by decide)
      rw [← flat_td] at hpb7
      refine ExS.retW ?_
      refine' eCall ?x1 rfl (lCons ?y1 EvL.nil ?y2) hpb7 ?x2 ?x3 ?x4
      case x1 => k_mem
      case x2 => decide
      case x3 => exact fun _ => rfl
      case x4 => exact fun _ => rfl
      case y2 => exact fun _ => rfl
      case y1 =>
        refine' eFlat (fun d => d) (D.its) (idD) ?hi7 ?hd7 ?hsz7 ?hx7 ?hy7 ?hn7 ?hyn7 ?hxy7 ?N7 ?hns7 ?hns27 ?hsm7 ?hs7 ?hs27 ?h7
        case hi7 => ktd_rel
        case hd7 => exact rfl
        case hsz7 => rw [flat_td, List.length_map, parts_flat_len hc]; have : 2 ^ dep ≤ 4 := (show 2 ^ dep ≤ 2 ^ 2 from Nat.pow_le_pow_right (by decide) hd); have : 2 ^ dep * c.length ≤ 4 * 4 := Nat.mul_le_mul this hl; omega
        case hx7 => first | exact .inl rfl | exact .inr rfl
        case hy7 => first | exact .inl rfl | exact .inr rfl
        case hn7 => exact rfl
        case hyn7 => exact rfl
        case hxy7 => decide
        case N7 => exact CompNames.mk'
        case hns7 => first | exact .inl rfl | exact .inr rfl
        case hns27 => first | exact .inl rfl | exact .inr rfl
        case hsm7 => first | (intro a b h; cases h; done) | (intro a b h; cases h; omega)
        case hs7 => exact fun _ _ => rfl
        case hs27 => exact fun _ _ => rfl
        case h7 =>
          intro d hd
          obtain ⟨b, hb, rfl⟩ := List.mem_map.mp hd
          refine' ⟨?ev, rfl, ?sm, ?el⟩
          case ev => ktd_rel
          case sm => intro a b h; cases h
          case el =>
            intro e he
            show EvS _ _ _ _ _ _ e _
            ktd_rel
end
-- part P8
theorem pick_lastP {c : List Pt} (hc : 0 < c.length) : pick (-1) (c.map pd) = some (pd (lstP c)) := by
  obtain ⟨l, a, rfl⟩ := lst_cons c hc
  rw [List.map_append]
  have e : lstP (l ++ [a]) = a := by simp [lstP]
  rw [e]; exact pick_last
theorem ends_map {c : List Pt} (hc : 0 < c.length) (d : Nat) : ((parts c d).map td).map (D.nth 0) ++ [pd (lstP c)] = (ends c d).map pd := by
  rw [map_first hc]; unfold ends; rw [List.map_append]; rfl
section
variable {w : World} {mean : ExcName → Option Value} {mg mb : Str → Option Value} {μ : Mu}
theorem reached_box_spec {k : Nat} (c : List Pt) (dep : Nat) (B : Box) (hB : IsBox (ends c dep) B) (hc : 0 < c.length) (hl : c.length ≤ 4) (hd : dep ≤ 2) (hs : ∀ p ∈ c, PSz k p) (hk : grd (c.length - 1) dep k ≤ 9000) : CallS (G w mean mg mb) 8 μ (.ref 178) [td c, .int dep] (bd B) μ := by
  refine' CallS.def_ (n := 7) (ex := []) (dex := []) (xs := [Str.ofString "curve", Str.ofString "depth"]) (σ' := []) (by k_mem) (by k_mem) ?h3 (fun _ => .nil) rfl (by decide) ?h4 ?h5 rfl rfl rfl
  case h3 => intro s vs X hl; match vs, hl with | [v0, v1], _ => first | exact BindsTo.of_eq rfl | exact binds_K X rfl (by k_mem) rfl rfl rfl
  case h4 => decide
  case h5 =>
    refine' ExS.cons (xAssign (d := .lst ((parts c 0).map td)) ?a ?b ?c) ?rest0
    case a =>
      show EvS _ _ _ _ _ _ (.lst [td c]) _
      have hc1 : CallS (G w mean mg mb) 7 μ (.type "tuple") [td c] (td c) μ := call_tupT
      ktd_rel
    case b => exact .inl rfl
    case c => exact fun _ _ => rfl
    case rest0 =>
    have hr : CallS (G w mean mg mb) 7 μ (.type "range") [.int dep] (.rng 0 dep) μ := call_range1
    refine' xFor (fun done rest σ ν => ν = μ ∧ done.length + rest.length = dep ∧ σ = [((Str.ofString "parts"), .lst ((parts c done.length).map td)), ((Str.ofString "curve"), td c), ((Str.ofString "depth"), .int dep)]) [((Str.ofString "parts"), .lst ((parts c 0).map td)), ((Str.ofString "curve"), td c), ((Str.ofString "depth"), .int dep)] ?hi ?hd ?hsm ?hs ?hw ?h0 ?step ?rest
    case hi => ktd_rel
    case hd => exact rfl
    case hsm => intro a b h; cases h; omega
    case hs => exact fun _ _ => rfl
    case hw => exact Sub3 rfl rfl rfl
    case h0 => exact ⟨rfl, by simp [rngItems], rfl⟩
    case step =>
      rintro done d rest σ ν ⟨rfl, hlen, rfl⟩
      rw [List.length_cons] at hlen
      refine' fStep [((Str.ofString "parts"), .lst ((parts c (done ++ [d]).length).map td)), ((Str.ofString "curve"), td c), ((Str.ofString "depth"), .int dep)] (AsS.name (.inl rfl)) (σ₂ := [((Str.ofString "parts"), .lst ((parts c (done ++ [d]).length).map td)), ((Str.ofString "curve"), td c), ((Str.ofString "depth"), .int dep)]) ?body ?sub ⟨rfl, ?len, rfl⟩
      case sub => exact Sub.refl
      case len => rw [List.length_append]; simp; omega
      case body =>
        refine' ExS.newList (ds := []) EvL.nil ?b3 ?b4 ?b5
        case b3 => exact .inl rfl
        case b4 => exact Nat.le_of_ble_eq_true rfl
        case b5 =>
        intro a ha
        have hn2 : (parts c done.length).length ≤ 4 := by
          rw [parts_count]
          have : done.length ≤ 2 := by omega
          exact (show 2 ^ done.length ≤ 2 ^ 2 from Nat.pow_le_pow_right (by decide) this)
        refine' xFor (fun done2 rest2 σ2 ν2 => ∃ p1 p2 : List (List Pt), p1 ++ p2 = parts c done.length ∧ rest2 = p2.map td ∧ ν2 = ν.put a ((cut1 p1).map td) ∧ σ2 = [((Str.ofString "halved"), .mref a), ((Str.ofString "parts"), .lst ((parts c done.length).map td)), ((Str.ofString "curve"), td c), ((Str.ofString "depth"), .int dep)]) [((Str.ofString "halved"), .mref a), ((Str.ofString "parts"), .lst ((parts c done.length).map td)), ((Str.ofString "curve"), td c), ((Str.ofString "depth"), .int dep)] ?hiB ?hdB ?hsmB ?hsB ?hwB ?h0B ?stepB ?restB
        case hiB => ktd_rel
        case hdB => exact rfl
        case hsmB => intro a b h; cases h
        case hsB => exact fun _ _ => rfl
        case hwB => exact Sub4 rfl rfl rfl rfl
        case h0B => exact ⟨[], _, rfl, rfl, rfl, rfl⟩
        case stepB =>
          rintro done2 d2 rest2 σ2 ν2 ⟨p1, p2, hp, hr2, rfl, rfl⟩
          cases p2 with
          | nil => cases hr2
          | cons b p2 =>
          rw [List.map_cons] at hr2
          injection hr2 with e1 e2
          subst e1 e2
          have hb : b ∈ parts c done.length := by rw [← hp]; simp
          have lb := parts_len hc done.length b hb
          have hcs := split_spec (w := w) (mean := mean) (mg := mg) (mb := mb) (μ := ν.put a ((cut1 p1).map td)) b (by omega) (parts_sz hc hs done.length b hb) (by
            rw [lb]
            exact Nat.le_trans (grd_le (c.length - 1) k (done.length + 1) dep (by omega)) hk) (by omega)
          have hcs7 := hcs.more (m := 7) (by decide)
          have hm : (ν.put a ((cut1 p1).map td)) a = some ((cut1 p1).map td) := Mu.put_self ..
          have hlp : p1.length ≤ 4 := by
            have := congrArg List.length hp
            rw [List.length_append, List.length_cons] at this; omega
          have hcl : (cut1 p1).length = p1.length * 2 := by
            clear hp hlp hm hcs hcs7
            induction p1 with
            | nil => rfl
            | cons a r ih => simp only [cut1, List.flatMap_cons, List.length_append, List.length_cons, List.length_nil] at ih ⊢; omega
          refine' fStep [((Str.ofString "halved"), .mref a), ((Str.ofString "parts"), .lst ((parts c done.length).map td)), ((Str.ofString "curve"), td c), ((Str.ofString "depth"), .int dep)] (AsS.name (.inl rfl)) ?b ?s ?q
          case b =>
            refine' ExS.cons (Ex1.extend (a := a) (ds := (cut1 p1).map td) (es := [td (lefts b), td (rights b)]) ?o ?e ?m0 ?m ?sz) ExS.nil
            case o => ktd_rel
            case e => ktd_rel
            case m0 => rw [hm]; simp
            case m => exact hm
            case sz => rw [List.length_map, hcl]; simp; omega
          case s => exact Sub4 rfl rfl rfl rfl
          case q =>
            refine ⟨p1 ++ [b], p2, by simpa using hp, rfl, ?_, rfl⟩
            rw [Mu.put_put]
            congr 1
            simp [cut1]
        case restB =>
          rintro σe μe ⟨p1, p2, hp, hr2, rfl, rfl⟩
          have e2 : p2 = [] := by
            cases p2 with
            | nil => rfl
            | cons b p => cases hr2
          subst e2
          rw [List.append_nil] at hp
          have ep : cut1 p1 = parts c (done ++ [d]).length := by rw [hp, List.length_append]; rfl
          have hm : (ν.put a ((cut1 p1).map td)) a = some ((cut1 p1).map td) := Mu.put_self ..
          refine' ExS.weak (ExS.cons (xTake ?e hm ?x ?s (Mu.del_put _ _ _ ha)) ExS.nil) ?sub
          case e => ktd_rel
          case x => exact .inl rfl
          case s => exact fun _ _ => rfl
          case sub => rw [ep]; exact Sub3 rfl rfl rfl
    case rest =>
      rintro σe μe ⟨rfl, hlen, rfl⟩
      have e : (rngItems 0 dep).length = dep := by simp [rngItems]
      rw [e]
      have hcount : (parts c dep).length ≤ 4 := by rw [parts_count]; exact (show 2 ^ dep ≤ 2 ^ 2 from Nat.pow_le_pow_right (by decide) hd)
      have hpb := point_box_spec (w := w) (mean := mean) (mg := mg) (mb := mb) (μ := μe) _ B hB (fun p hp => by
        obtain ⟨b, hb, hp⟩ := List.mem_flatten.mp (ends_in hc p hp)
        exact parts_sz hc hs dep b hb p hp) (by omega) (by
          unfold ends
          simp; omega)
      have hpb7 := hpb.more (m := 7) (by decide)
      rw [← ends_map hc] at hpb7
      have hpl := pick_lastP hc
      refine ExS.retW ?_
      refine' eCall ?x1 rfl (lCons (EvS.cat ?y1 ?y3 ?y4) EvL.nil ?y2) hpb7 ?x2 ?x3 ?x4
      case x1 => k_mem
      case x2 => decide
      case x3 => exact fun _ => rfl
      case x4 => exact fun _ => rfl
      case y2 => exact fun _ => rfl
      case y1 =>
        refine' eMap (D.nth 0) ?hi7 ?hd7 ?hsz7 ?hx7 ?hn7 ?N7 ?hns7 ?hsm7 ?hs7 ?h7
        case hi7 => ktd_rel
        case hd7 => exact rfl
        case hsz7 => rw [List.length_map]; omega
        case hx7 => first | exact .inl rfl | exact .inr rfl
        case hn7 => exact rfl
        case N7 => exact CompNames.mk'
        case hns7 => first | exact .inl rfl | exact .inr rfl
        case hsm7 => first | (intro a b h; cases h; done) | (intro a b h; cases h; omega)
        case hs7 => exact fun _ _ => rfl
        case h7 =>
          intro d hd
          obtain ⟨r, hr, rfl⟩ := List.mem_map.mp hd
          have h0 : 0 < r.length := by rw [parts_len hc dep r hr]; exact hc
          rw [nth_td h0]
          obtain ⟨a, r', rfl⟩ : ∃ a r', r = a :: r' := by cases r with | nil => exact absurd h0 (Nat.lt_irrefl _) | cons a b => exact ⟨a, b, rfl⟩
          have hp : pick 0 ((a :: r').map pd) = some (pd (fstP (a :: r'))) := pick_zero
          unfold td
          ktd_rel
      case y3 =>
        unfold td
        ktd_rel
      case y4 => rw [List.length_map, List.length_map]; simp; omega
end
-- part P9
theorem mean_mk (a b : Rat) : mkRat (a.num * b.den + b.num * a.den) (2 * a.den * b.den) = (a + b) / 2 := by
  have h : (a + b) / 2 = (a + b) * half := by rw [half_eq]; grind
  rw [h, ← rat_add_mk]
  unfold half
  rw [Rat.mkRat_mul_mkRat, Int.mul_one]
  congr 1
  rw [Nat.mul_assoc, Nat.mul_comm]
def ld (c : List Pt) : D := .lst (c.map pd)
def uqd : D → Rat
  | .tup [.int n, .int d] => mkRat n d.toNat
  | _ => 0
def upd : D → Pt
  | .tup [a, b] => (uqd a, uqd b)
  | _ => (0, 0)
def uld : D → List Pt
  | .lst l => l.map upd
  | _ => []
theorem uqd_qd (r : Rat) : uqd (qd r) = r := by
  show mkRat r.num ((r.den : Int).toNat) = r
  rw [Int.toNat_natCast, Rat.mkRat_self]
theorem upd_pd (p : Pt) : upd (pd p) = p := by
  show (uqd (qd p.1), uqd (qd p.2)) = p
  rw [uqd_qd, uqd_qd]
theorem uld_ld (c : List Pt) : uld (ld c) = c := by
  show (c.map pd).map upd = c
  rw [List.map_map]
  conv => rhs; rw [← List.map_id c]
  exact List.map_congr_left fun p _ => upd_pd p
section
variable {w : World} {mean : ExcName → Option Value} {mg mb : Str → Option Value} {μ : Mu}
theorem mean_spec {k : Nat} (p q : Pt) (hp : PSz k p) (hq : PSz k q) (hk : 3 * k + 4 ≤ 9000) : CallS (G w mean mg mb) 3 μ (.ref 235) [pd p, pd q] (pd (mid p q)) μ := by
  refine' CallS.def_ (n := 2) (ex := []) (dex := []) (xs := [Str.ofString "one", Str.ofString "other"]) (σ' := []) (by k_mem) (by k_mem) ?h3 (fun _ => .nil) rfl (by decide) ?h4 ?h5 rfl rfl rfl
  case h3 => intro s vs X hl; match vs, hl with | [v0, v1], _ => first | exact BindsTo.of_eq rfl | exact binds_K X rfl (by k_mem) rfl rfl rfl
  case h4 => decide
  case h5 =>
    refine' ExS.newList (ds := []) EvL.nil ?b3 ?b4 ?b5
    case b3 => exact .inl rfl
    case b4 => exact Nat.le_of_ble_eq_true rfl
    case b5 =>
    intro a ha
    have turn : ∀ (x y : Rat) (ν : Mu), Sz k x → Sz k y → IntMulOk x.num y.den ∧ IntMulOk y.num x.den ∧ IntMulOk 2 x.den ∧ IntMulOk (2 * x.den) y.den ∧ CallS (G w mean mg mb) 2 ν (.ref 61) [.int (x.num * y.den + y.num * x.den), .int (2 * x.den * y.den)] (qd ((x + y) / 2)) ν := by
      intro x y ν h1 h2
      refine ⟨mulB h1.1 (by simpa using h2.2) (by omega) (by omega), mulB h2.1 (by simpa using h1.2) (by omega) (by omega), mulB (k := 2) (by decide) (by simpa using h1.2) (by omega) (by omega), mulB (k := 2 + k) (natAbs_mul_lt (by decide) (by simpa using h1.2)) (by simpa using h2.2) (by omega) (by omega), ?_⟩
      have hd : 0 < 2 * x.den * y.den := Nat.mul_pos (Nat.mul_pos (by decide) x.den_pos) y.den_pos
      have hc := fraction_spec (w := w) (mean := mean) (mg := mg) (mb := mb) (μ := ν) (x.num * y.den + y.num * x.den) (2 * x.den * y.den) hd (log2_small (k := 2 + k + k) (by
        rw [Nat.pow_add, Nat.pow_add]
        exact Nat.mul_lt_mul'' (Nat.mul_lt_mul'' (by decide) h1.2) h2.2) hd (by omega))
      rw [mean_mk, Int.natCast_mul, Int.natCast_mul] at hc
      exact hc
    refine' ExS.cons (Ex1.forZip (as := [qd p.1, qd p.2]) (bs := [qd q.1, qd q.2]) (σ' := [((Str.ofString "found"), .mref a)]) (μ' := μ.put a [qd (mid p q).1, qd (mid p q).2]) zip_in zip_boot zip_ne rfl ?ha ?hd ?he ?hp rfl ?hr ?hs) ?rest
    case ha =>
      show EvL _ _ _ _ _ _ _ [pd p, pd q] _
      ktd_rel
    case hd => decide
    case he => exact fun _ => rfl
    case hp => exact fun _ => rfl
    case hs => exact fun _ _ => rfl
    case hr =>
      show ForRuns _ _ _ _ _ [.tup [qd p.1, qd q.1], .tup [qd p.2, qd q.2]] _ _ _ _ _
      refine' ForRuns.step (AsN.pair (AsN.pair (AsN.name (.inl rfl) ?n1) (AsN.name (.inl rfl) ?n2)) (AsN.pair (AsN.name (.inl rfl) ?n3) (AsN.name (.inl rfl) ?n4))) ?b1 (Sub1 (x := (Str.ofString "found")) (d := .mref a) ?s1) ?r1
      case n1 => simp [tnames]
      case n2 => simp [tnames]
      case n3 => simp [tnames]
      case n4 => simp [tnames]
      case b1 =>
        obtain ⟨m1, m2, m3, m4, hc⟩ := turn p.1 q.1 (μ.put a []) hp.1 hq.1
        refine' ExS.cons (Ex1.append (a := a) (ds := []) (d := qd (mid p q).1) ?o1 ?e1 ?mz1 ?mm1 ?sz1) ExS.nil
        case o1 => ktd_rel
        case e1 =>
          show EvS _ _ _ _ _ _ (qd ((p.1 + q.1) / 2)) _
          ktd_rel
        case mz1 => rw [Mu.put_self]; simp
        case mm1 => exact Mu.put_self ..
        case sz1 => exact Nat.le_of_ble_eq_true rfl
      case s1 => exact rfl
      case r1 =>
        rw [Mu.put_put]
        show ForRuns _ _ _ _ _ _ _ (μ.put a [qd (mid p q).1]) _ _ _
        refine' ForRuns.step (AsN.pair (AsN.pair (AsN.name (.inl rfl) ?nn1) (AsN.name (.inl rfl) ?nn2)) (AsN.pair (AsN.name (.inl rfl) ?nn3) (AsN.name (.inl rfl) ?nn4))) ?bb1 (Sub1 (x := (Str.ofString "found")) (d := .mref a) ?ss1) ?rr1
        case nn1 => simp [tnames]
        case nn2 => simp [tnames]
        case nn3 => simp [tnames]
        case nn4 => simp [tnames]
        case bb1 =>
          obtain ⟨m1, m2, m3, m4, hc⟩ := turn p.2 q.2 (μ.put a [qd (mid p q).1]) hp.2 hq.2
          refine' ExS.cons (Ex1.append (a := a) (ds := [qd (mid p q).1]) (d := qd (mid p q).2) ?o2 ?e2 ?mz2 ?mm2 ?sz2) ExS.nil
          case o2 => ktd_rel
          case e2 =>
            show EvS _ _ _ _ _ _ (qd ((p.2 + q.2) / 2)) _
            ktd_rel
          case mz2 => rw [Mu.put_self]; simp
          case mm2 => exact Mu.put_self ..
          case sz2 => exact Nat.le_of_ble_eq_true rfl
        case ss1 => exact rfl
        case rr1 =>
          rw [Mu.put_put]
          exact .nil
    case rest =>
      have hm : (μ.put a [qd (mid p q).1, qd (mid p q).2]) a = some [qd (mid p q).1, qd (mid p q).2] := Mu.put_self ..
      have hc : CallS (G w mean mg mb) 2 (μ.put a [qd (mid p q).1, qd (mid p q).2]) (.type "tuple") [.mref a] (pd (mid p q)) (μ.put a [qd (mid p q).1, qd (mid p q).2]) := call_tupM hm (by simp)
      have hd1 : (μ.put a [qd (mid p q).1, qd (mid p q).2]).del a = μ := Mu.del_put _ _ _ ha
      refine' ExS.dropMu (a := a) (h := ExS.retW ?e3) hm hd1
      case e3 => ktd_rel
end
-- part P10
theorem fstP_get {c : List Pt} (h : 0 < c.length) : pick 0 (c.map pd) = some (pd (fstP c)) := by
  match c, h with
  | a :: r, _ => exact pick_zero
section
variable {w : World} {mean : ExcName → Option Value} {mg mb : Str → Option Value} {μ : Mu}
theorem halved_spec {k : Nat} (c : List Pt) (hc : 0 < c.length) (hs : ∀ p ∈ c, PSz k p) (hk : gr (c.length - 1) k ≤ 9000) (hl : c.length ≤ 100) : CallS (G w mean mg mb) 5 μ (.ref 240) [ld c] (.lst [ld (lefts c), ld (rights c)]) μ := by
  refine' CallS.def_ (n := 4) (ex := []) (dex := []) (xs := [Str.ofString "points"]) (σ' := []) (by k_mem) (by k_mem) ?h3 (fun _ => .nil) rfl (by decide) ?h4 ?h5 rfl rfl rfl
  case h3 => intro s vs X hl; match vs, hl with | [v0], _ => first | exact BindsTo.of_eq rfl | exact binds_K X rfl (by k_mem) rfl rfl rfl
  case h4 => decide
  case h5 =>
    have p0 := fstP_get hc
    have p1 := pick_lastP hc
    have hrl : (rowsOf c).length = c.length := by unfold rowsOf; rw [rowsN_length]; omega
    refine' ExS.cons (xAssign2 (a := ld [fstP c]) (b := ld [lstP c]) ?aa ?ab ?ac ?ad ?ae) ?rest0
    case aa =>
      unfold ld
      show EvS _ _ _ _ _ _ (.tup [.lst [pd (fstP c)], .lst [pd (lstP c)]]) _
      ktd_rel
    case ab => exact rfl
    case ac => exact rfl
    case ad => exact fun _ _ => rfl
    case ae => exact fun e h => by cases e; cases h; rfl
    case rest0 =>
    refine' xWhile (fun m σ ν => ∃ (cur L R : List Pt) (k' : Nat), ν = μ ∧ σ = [((Str.ofString "points"), ld cur), ((Str.ofString "left"), ld L), ((Str.ofString "right"), ld R)] ∧ m = cur.length - 1 ∧ 0 < cur.length ∧ L.length + cur.length ≤ 101 ∧ R.length + cur.length ≤ 101 ∧ (∀ p ∈ cur, PSz k' p) ∧ gr (cur.length - 1) k' ≤ 9000 ∧ L ++ (rowsN (cur.length - 1) cur).tail.map fstP = lefts c ∧ (rowsN (cur.length - 1) cur).tail.reverse.map lstP ++ R = rights c) (c.length - 1) [((Str.ofString "points"), ld c), ((Str.ofString "left"), ld [fstP c]), ((Str.ofString "right"), ld [lstP c])] ?hw ?h0 ?step
    case hw => exact Sub3 rfl rfl rfl
    case h0 =>
      have e : rowsOf c = c :: (rowsOf c).tail := by
        have := rowsN_head (c.length - 1) c
        show rowsN (c.length - 1) c = c :: (rowsN (c.length - 1) c).tail
        match hq : rowsN (c.length - 1) c, this with
        | a :: r, h => simp at h; subst h; rfl
      refine ⟨c, _, _, k, rfl, rfl, rfl, hc, by simp; omega, by simp; omega, hs, hk, ?_, ?_⟩
      · unfold lefts; conv => rhs; rw [e]
        rfl
      · unfold rights; conv => rhs; rw [e]
        simp; rfl
    case step =>
      rintro m σ ν ⟨cur, L, R, k', rfl, rfl, rfl, h1, h2, h3, h4, h5, h6, h7⟩
      have hlen : (cur.map pd).length ≤ 1000 := by simp; omega
      have hcl := call_lenL (g := G w mean mg mb) (n := 4) (μ := ν) hlen
      rw [List.length_map] at hcl
      by_cases hgt : (1 : Int) < cur.length
      · have e : cur.length - 1 = (mids cur).length - 1 + 1 := by rw [mids_length]; omega
        have hm0 : 0 < (mids cur).length := by rw [mids_length]; omega
        have q0 := fstP_get hm0
        have q1 := pick_lastP hm0
        refine' wStep [((Str.ofString "points"), ld (mids cur)), ((Str.ofString "left"), ld (L ++ [fstP (mids cur)])), ((Str.ofString "right"), ld ([lstP (mids cur)] ++ R))] ((mids cur).length - 1) (TsS.to ?t1 (boolT hgt)) ?b1 ?s1 ?m1 ?i1
        case t1 =>
          unfold ld
          k_all
        case b1 =>
          refine' ExS.cons (xAssign (d := ld (mids cur)) ?x1 ?x2 ?x3) ?rest1
          case x1 =>
            show EvS _ _ _ _ _ _ (.lst ((mids cur).map pd)) _
            rw [← midF_map]
            have hr : CallS (G w mean mg mb) 4 ν (.type "range") [.int ((cur.length : Int) - 1)] (.rng 0 (cur.length - 1)) ν := by
              have : ((cur.length : Int) - 1) = ((cur.length - 1 : Nat) : Int) := by omega
              rw [this]; exact call_range1
            refine' eMap (midF cur) ?hi7 ?hd7 ?hsz7 ?hx7 ?hn7 ?N7 ?hns7 ?hsm7 ?hs7 ?h7
            case hi7 => ktd_rel
            case hd7 => exact rfl
            case hsz7 => simp [rngItems]; omega
            case hx7 => first | exact .inl rfl | exact .inr rfl
            case hn7 => exact rfl
            case N7 => exact CompNames.mk'
            case hns7 => first | exact .inl rfl | exact .inr rfl
            case hsm7 => first | (intro a b h; cases h; done) | (intro a b h; cases h; omega)
            case hs7 => exact fun _ _ => rfl
            case h7 =>
              intro d hd
              obtain ⟨i, hi, rfl⟩ := mem_rng hd
              have a1 : cur[i]? = some cur[i] := by simp
              have a2 : cur[i + 1]? = some cur[i + 1] := by simp
              have q1 : pick (i : Int) (cur.map pd) = some (pd cur[i]) := pick_nat (by rw [List.getElem?_map, a1]; rfl)
              have q2 : pick ((i : Int) + 1) (cur.map pd) = some (pd cur[i + 1]) := pick_nat (i := i + 1) (by rw [List.getElem?_map, a2]; rfl)
              have hc3 := (mean_spec (w := w) (mean := mean) (mg := mg) (mb := mb) (μ := ν) cur[i] cur[i + 1] (h4 _ (List.getElem_mem _)) (h4 _ (List.getElem_mem _)) (by
                have := le_gr (cur.length - 2) (3 * k' + 4)
                have e : cur.length - 1 = cur.length - 2 + 1 := by omega
                rw [e] at h5
                exact Nat.le_trans this h5)).more (m := 4) (by decide)
              have e : midF cur (.int i) = pd (mid cur[i] cur[i + 1]) := by
                simp only [midF, Int.toNat_natCast]
                rw [List.getD_eq_getElem?_getD, List.getD_eq_getElem?_getD, a1, a2]
                rfl
              rw [e]
              unfold ld
              ktd_rel
          case x2 => first | exact .inl rfl | exact .inr rfl
          case x3 => exact fun e h => by cases e; cases h; rfl
          case rest1 =>
          refine' ExS.cons (xAssign2 (a := ld (L ++ [fstP (mids cur)])) (b := ld ([lstP (mids cur)] ++ R)) ?y1 ?y2 ?y3 ?y4 ?y5) ExS.nil
          case y1 =>
            unfold ld
            rw [List.map_append, List.map_append]
            refine' eTup (lCons (EvS.cat ?z1 ?z2 ?z3) (lCons (EvS.cat ?z4 ?z5 ?z6) EvL.nil ?z7) ?z8) ?z9
            case z1 => ktd_rel
            case z2 =>
              show EvS _ _ _ _ _ _ (.lst [pd (fstP (mids cur))]) _
              ktd_rel
            case z3 => simp; omega
            case z4 =>
              show EvS _ _ _ _ _ _ (.lst [pd (lstP (mids cur))]) _
              ktd_rel
            case z5 => ktd_rel
            case z6 => simp; omega
            case z7 => exact fun _ => rfl
            case z8 => exact fun _ => rfl
            case z9 => exact Nat.le_of_ble_eq_true rfl
          case y2 => exact rfl
          case y3 => exact rfl
          case y4 => exact fun _ _ => rfl
          case y5 => exact fun e h => by cases e; cases h; rfl
        case s1 => exact Sub3 rfl rfl rfl
        case m1 => omega
        case i1 =>
          have hrow : rowsN ((mids cur).length - 1) (mids cur) = mids cur :: (rowsN ((mids cur).length - 1) (mids cur)).tail := by
            have := rowsN_head ((mids cur).length - 1) (mids cur)
            match hq : rowsN ((mids cur).length - 1) (mids cur), this with
            | a :: r, h => simp at h; subst h; rfl
          rw [e] at h5 h6 h7
          simp only [rowsN, List.tail_cons] at h6 h7
          rw [hrow] at h6 h7
          have lm := mids_length cur
          refine ⟨mids cur, _, _, 3 * k' + 4, rfl, rfl, rfl, hm0, by simp; omega, by simp; omega, mids_sz cur h4, h5, ?_, ?_⟩
          · rw [← h6]; simp
          · rw [← h7]; simp
      · have e1 : cur.length - 1 = 0 := by omega
        refine' .inr ⟨TsS.to ?t1 (boolF hgt), ?r1⟩
        case t1 =>
          unfold ld
          k_all
        case r1 =>
          rw [e1] at h6 h7
          have e2 : L = lefts c := by rw [← h6]; simp [rowsN]
          have e3 : R = rights c := by rw [← h7]; simp [rowsN]
          subst e2 e3
          exact ExS.retW (by ktd_rel)
end
-- part P11
def halvesD (d : D) : D := .lst [ld (lefts (uld d)), ld (rights (uld d))]
def halvesL (d : D) : List D := [ld (lefts (uld d)), ld (rights (uld d))]
theorem cut_ld (ps : List (List Pt)) : ((ps.map ld).flatMap fun d => (halvesL d).map (idD d)) = (cut1 ps).map ld := by
  induction ps with
  | nil => rfl
  | cons c r ih =>
    rw [List.map_cons, List.flatMap_cons, ih]
    show [ld (lefts (uld (ld c))), ld (rights (uld (ld c)))] ++ _ = _
    rw [uld_ld]
    simp [cut1]
theorem cut1_length (ps : List (List Pt)) : (cut1 ps).length = ps.length * 2 := by
  induction ps with
  | nil => rfl
  | cons a r ih => simp only [cut1, List.flatMap_cons, List.length_append, List.length_cons, List.length_nil] at ih ⊢; omega
section
variable {w : World} {mean : ExcName → Option Value} {mg mb : Str → Option Value} {μ : Mu}
theorem parts_spec {k : Nat} (c : List Pt) (dep : Nat) (hc : 0 < c.length) (hl : c.length ≤ 4) (hd : dep ≤ 2) (hs : ∀ p ∈ c, PSz k p) (hk : grd (c.length - 1) dep k ≤ 9000) : CallS (G w mean mg mb) 7 μ (.ref 245) [td c, .int dep] (.lst ((parts c dep).map ld)) μ := by
  refine' CallS.def_ (n := 6) (ex := []) (dex := []) (xs := [Str.ofString "curve", Str.ofString "depth"]) (σ' := []) (by k_mem) (by k_mem) ?h3 (fun _ => .nil) rfl (by decide) ?h4 ?h5 rfl rfl rfl
  case h3 => intro s vs X hl; match vs, hl with | [v0, v1], _ => first | exact BindsTo.of_eq rfl | exact binds_K X rfl (by k_mem) rfl rfl rfl
  case h4 => decide
  case h5 =>
    refine' ExS.cons (xAssign (d := .lst ((parts c 0).map ld)) ?aa ?ab ?ac) ?rest0
    case aa =>
      show EvS _ _ _ _ _ _ (.lst [ld c]) _
      have hc1 : CallS (G w mean mg mb) 6 μ (.type "list") [td c] (ld c) μ := call_lstT (by simp; omega)
      ktd_rel
    case ab => exact .inl rfl
    case ac => exact fun _ _ => rfl
    case rest0 =>
    have hr : CallS (G w mean mg mb) 6 μ (.type "range") [.int dep] (.rng 0 dep) μ := call_range1
    refine' xFor (fun done rest σ ν => ν = μ ∧ done.length + rest.length = dep ∧ σ = [((Str.ofString "parts"), .lst ((parts c done.length).map ld)), ((Str.ofString "depth"), .int dep)]) [((Str.ofString "parts"), .lst ((parts c 0).map ld)), ((Str.ofString "depth"), .int dep)] ?hi ?hd ?hsm ?hs ?hw ?h0 ?step ?rest
    case hi => ktd_rel
    case hd => exact rfl
    case hsm => intro a b h; cases h; omega
    case hs => exact fun _ _ => rfl
    case hw => exact Sub2 rfl rfl
    case h0 => exact ⟨rfl, by simp [rngItems], rfl⟩
    case step =>
      rintro done d rest σ ν ⟨rfl, hlen, rfl⟩
      rw [List.length_cons] at hlen
      refine' fStep [((Str.ofString "parts"), .lst ((parts c (done ++ [d]).length).map ld)), ((Str.ofString "depth"), .int dep)] (AsS.name (.inl rfl)) (σ₂ := [((Str.ofString "parts"), .lst ((parts c (done ++ [d]).length).map ld)), ((Str.ofString "depth"), .int dep)]) ?body ?sub ⟨rfl, ?len, rfl⟩
      case sub => exact Sub.refl
      case len => rw [List.length_append]; simp; omega
      case body =>
        have hn2 : (parts c done.length).length ≤ 4 := by
          rw [parts_count]
          have : done.length ≤ 2 := by omega
          exact (show 2 ^ done.length ≤ 2 ^ 2 from Nat.pow_le_pow_right (by decide) this)
        refine' ExS.weak (τ := [((Str.ofString "parts"), .lst ((parts c (done ++ [d]).length).map ld)), ((Str.ofString "depth"), .int dep)]) ?blk ?subw
        case blk =>
          refine' ExS.cons (xFlat (halvesD) (halvesL) (idD) ?hi7 ?hd7 ?hsz7 ?hx7 ?hy7 ?hn7 ?hyn7 ?hxy7 ?N7 ?hns7 ?hns27 ?hsm7 ?hs7 ?hs27 ?hz7 ?hsw7 ?h7) ?rest7
          case hi7 => ktd_rel
          case hd7 => exact rfl
          case hsz7 => rw [cut_ld, List.length_map, cut1_length]; omega
          case hx7 => first | exact .inl rfl | exact .inr rfl
          case hy7 => first | exact .inl rfl | exact .inr rfl
          case hn7 => exact rfl
          case hyn7 => exact rfl
          case hxy7 => decide
          case N7 => exact CompNames.mk'
          case hns7 => first | exact .inl rfl | exact .inr rfl
          case hns27 => first | exact .inl rfl | exact .inr rfl
          case hsm7 => first | (intro a b h; cases h; done) | (intro a b h; cases h; omega)
          case hs7 => exact fun _ _ => rfl
          case hs27 => exact fun _ _ => rfl
          case hz7 => exact rfl
          case hsw7 => exact fun e h => by cases e; cases h; rfl
          case h7 =>
            intro d2 hd2
            obtain ⟨b, hb, rfl⟩ := List.mem_map.mp hd2
            have lb := parts_len hc done.length b hb
            have hh := (halved_spec (w := w) (mean := mean) (mg := mg) (mb := mb) (μ := ν) b (by omega) (parts_sz hc hs done.length b hb) (by
              rw [lb]
              exact Nat.le_trans (grd_le (c.length - 1) k (done.length + 1) dep (by omega)) hk) (by omega)).more (m := 6) (by decide)
            have e : halvesD (ld b) = .lst [ld (lefts b), ld (rights b)] := by unfold halvesD; rw [uld_ld]
            have e2 : halvesL (ld b) = [ld (lefts b), ld (rights b)] := by unfold halvesL; rw [uld_ld]
            refine' ⟨?ev, ?it, ?sm, ?el⟩
            case ev => rw [e]; ktd_rel
            case it => rw [e, e2]; rfl
            case sm => intro a b h; rw [e] at h; cases h
            case el =>
              intro e he
              show EvS _ _ _ _ _ _ e _
              ktd_rel
          case rest7 => exact ExS.nil
        case subw =>
          have ep : ((parts c done.length).map ld).flatMap (fun d => (halvesL d).map (idD d)) = (parts c (done ++ [d]).length).map ld := by
            rw [cut_ld, List.length_append]; rfl
          rw [← ep]
          exact Sub2 rfl rfl
    case rest =>
      rintro σe μe ⟨rfl, hlen, rfl⟩
      have e : (rngItems 0 dep).length = dep := by simp [rngItems]
      rw [e]
      exact ExS.retW (by ktd_rel)
end
-- part P12
def cj (j : Nat) (p : Pt) : Rat := if j % 2 = 0 then p.1 else p.2
def bj (B : Box) (j : Nat) : Rat := if j = 0 then B.l else if j = 1 then B.t else if j = 2 then B.r else B.b
theorem pick_cj {j : Nat} (h : j < 4) (p : Pt) : pick ((j : Int).fmod 2) [qd p.1, qd p.2] = some (qd (cj j p)) := by
  have : j = 0 ∨ j = 1 ∨ j = 2 ∨ j = 3 := by omega
  rcases this with rfl | rfl | rfl | rfl <;> rfl
theorem pick_bj {j : Nat} (h : j < 4) (B : Box) : pick (j : Int) [qd B.l, qd B.t, qd B.r, qd B.b] = some (qd (bj B j)) := by
  have : j = 0 ∨ j = 1 ∨ j = 2 ∨ j = 3 := by omega
  rcases this with rfl | rfl | rfl | rfl <;> rfl
theorem fmod2 (j : Nat) : (j : Int).fmod 2 = ((j % 2 : Nat) : Int) := by rw [Int.fmod_eq_emod_of_nonneg _ (by omega)]; rfl
def sideD (B : Box) (j : Nat) (d : D) : D := .int (cmpR (cj j (upd d)) (bj B j))
theorem side_map (B : Box) (j : Nat) (ps : List Pt) : (ps.map pd).map (sideD B j) = (ps.map fun p => cmpR (cj j p) (bj B j)).map .int := by
  rw [List.map_map, List.map_map]
  refine List.map_congr_left fun p _ => ?_
  show D.int (cmpR (cj j (upd (pd p))) _) = _
  rw [upd_pd]; rfl
theorem side_zero {B : Box} {ps : List Pt} (hB : IsBox ps B) {j : Nat} (h : j < 4) : ((ps.map fun p => cmpR (cj j p) (bj B j)).any (· == 0)) = true := by
  have key : ∃ p ∈ ps, cj j p = bj B j := by
    have hj : j = 0 ∨ j = 1 ∨ j = 2 ∨ j = 3 := by omega
    rcases hj with rfl | rfl | rfl | rfl
    · obtain ⟨p, hp, e⟩ := List.mem_map.mp hB.l; exact ⟨p, hp, e⟩
    · obtain ⟨p, hp, e⟩ := List.mem_map.mp hB.t; exact ⟨p, hp, e⟩
    · obtain ⟨p, hp, e⟩ := List.mem_map.mp hB.r; exact ⟨p, hp, e⟩
    · obtain ⟨p, hp, e⟩ := List.mem_map.mp hB.b; exact ⟨p, hp, e⟩
  obtain ⟨p, hp, e⟩ := key
  rw [List.any_eq_true]
  exact ⟨_, List.mem_map.mpr ⟨p, hp, rfl⟩, by rw [e, cmpR_eq]; rfl⟩
theorem side_in {B : Box} {ps : List Pt} (hB : IsBox ps B) {j : Nat} (h : j < 4) : ((ps.map fun p => cmpR (cj j p) (bj B j)).any (· == (if j < 2 then -1 else 1))) = false := by
  rw [List.any_eq_false]
  intro x hx
  obtain ⟨p, hp, rfl⟩ := List.mem_map.mp hx
  have a := hB.all p hp
  have hj : j = 0 ∨ j = 1 ∨ j = 2 ∨ j = 3 := by omega
  have lo : ∀ u v : Rat, v ≤ u → ¬ (cmpR u v == -1) = true := fun u v q e => by
    have e : cmpR u v = -1 := by simpa using e
    have : u < v := cmpR_lt.mp (by omega)
    exact absurd this (Rat.not_lt.mpr q)
  have hi : ∀ u v : Rat, u ≤ v → ¬ (cmpR u v == 1) = true := fun u v q e => by
    have e : cmpR u v = 1 := by simpa using e
    have : v < u := cmpR_gt.mp (by omega)
    exact absurd this (Rat.not_lt.mpr q)
  rcases hj with rfl | rfl | rfl | rfl
  · exact lo _ _ a.1
  · exact lo _ _ a.2.1
  · exact hi _ _ a.2.2.1
  · exact hi _ _ a.2.2.2
theorem bj_sz {k : Nat} {B : Box} {ps : List Pt} (hB : IsBox ps B) (hs : ∀ p ∈ ps, PSz k p) (j : Nat) : Sz k (bj B j) := by
  unfold bj
  split
  · obtain ⟨p, hp, e⟩ := List.mem_map.mp hB.l; exact e ▸ (hs p hp).1
  · split
    · obtain ⟨p, hp, e⟩ := List.mem_map.mp hB.t; exact e ▸ (hs p hp).2
    · split
      · obtain ⟨p, hp, e⟩ := List.mem_map.mp hB.r; exact e ▸ (hs p hp).1
      · obtain ⟨p, hp, e⟩ := List.mem_map.mp hB.b; exact e ▸ (hs p hp).2
theorem cj_sz {k : Nat} {p : Pt} (h : PSz k p) (j : Nat) : Sz k (cj j p) := by
  unfold cj; split
  · exact h.1
  · exact h.2
section
variable {w : World} {mean : ExcName → Option Value} {mg mb : Str → Option Value} {μ : Mu}
theorem around_spec {k : Nat} (B : Box) (ps : List Pt) (hB : IsBox ps B) (hs : ∀ p ∈ ps, PSz k p) (hk : k ≤ 50000) (hl : ps.length ≤ 1000) : CallS (G w mean mg mb) 4 μ (.ref 250) [bd B, .lst (ps.map pd)] (.bool true) μ := by
  refine' CallS.def_ (n := 3) (ex := []) (dex := []) (xs := [Str.ofString "box", Str.ofString "points"]) (σ' := []) (by k_mem) (by k_mem) ?h3 (fun _ => .nil) rfl (by decide) ?h4 ?h5 rfl rfl rfl
  case h3 => intro s vs X hl; match vs, hl with | [v0, v1], _ => first | exact BindsTo.of_eq rfl | exact binds_K X rfl (by k_mem) rfl rfl rfl
  case h4 => decide
  case h5 =>
    have hr : CallS (G w mean mg mb) 3 μ (.type "range") [.int 4] (.rng 0 4) μ := call_range1 (m := 4)
    refine' xFor (fun done rest σ ν => ν = μ ∧ (∀ d ∈ rest, d ∈ rngItems 0 4) ∧ σ = [((Str.ofString "box"), bd B), ((Str.ofString "points"), .lst (ps.map pd))]) [((Str.ofString "box"), bd B), ((Str.ofString "points"), .lst (ps.map pd))] ?hi ?hd ?hsm ?hs ?hw ?h0 ?step ?rest
    case hi => ktd_rel
    case hd => exact rfl
    case hsm => intro a b h; cases h; omega
    case hs => exact fun _ _ => rfl
    case hw => exact Sub2 rfl rfl
    case h0 => exact ⟨rfl, fun d hd => hd, rfl⟩
    case step =>
      rintro done d rest σ ν ⟨rfl, hrest, rfl⟩
      obtain ⟨j, hj, rfl⟩ := mem_rng (hrest d (.head _))
      refine' fStep [((Str.ofString "box"), bd B), ((Str.ofString "points"), .lst (ps.map pd))] (AsS.name (by first | exact .inl rfl | exact .inr rfl)) ?body ?sub ⟨rfl, fun d hd => hrest d (.tail _ hd), rfl⟩
      case body =>
        refine' ExS.cons (xMap (sideD B j) ?hi7 ?hd7 ?hsz7 ?hx7 ?hn7 ?N7 ?hns7 ?hsm7 ?hs7 ?hy7 ?hsw7 ?h7) ?rest7
        case hi7 => ktd_rel
        case hd7 => exact rfl
        case hsz7 => simpa using hl
        case hx7 => first | exact .inl rfl | exact .inr rfl
        case hn7 => exact rfl
        case N7 => exact CompNames.mk'
        case hns7 => first | exact .inl rfl | exact .inr rfl
        case hsm7 => first | (intro a b h; cases h; done) | (intro a b h; cases h; omega)
        case hs7 => exact fun _ _ => rfl
        case hy7 => exact rfl
        case hsw7 => exact fun e h => by cases e; cases h; rfl
        case h7 =>
          intro d hd
          obtain ⟨p, hp, rfl⟩ := List.mem_map.mp hd
          have hc := (compare_spec (w := w) (mean := mean) (mg := mg) (mb := mb) (μ := ν) (cj j p) (bj B j) (cj_sz (hs p hp) j) (bj_sz hB hs j) (by omega)).more (m := 3) (by decide)
          have q1 := pick_cj hj p
          have q2 := pick_bj hj B
          have e : sideD B j (pd p) = .int (cmpR (cj j p) (bj B j)) := by unfold sideD; rw [upd_pd]
          have h2 : (2 : Int) ≠ 0 := by decide
          rw [e]
          unfold pd bd
          have hb := fmod2 j
          ktd_rel
        case rest7 =>
        rw [side_map]
        have s1 := side_zero hB hj
        have s2 := side_in hB hj
        refine' ExS.ifF (TsS.to (tOr ?t1 ?t2) ?tb) ExS.nil
        case t1 =>
          refine' tCmp ?ka ?kb cmp_notin ?kd
          case ka => ktd_rel
          case kb => ktd_rel
          case kd => exact rfl
        case t2 =>
          refine' tCmp (EvS.ifexp (v := decide ((j : Int) < 2)) (d := .int (if j < 2 then -1 else 1)) ?va ?vb ?vc) ?kb2 cmp_in ?kd2
          case va => k_all
          case vb =>
            intro h
            have h : (j : Int) < 2 := by simpa using h
            rw [if_pos (by omega)]
            ktd_rel
          case vc =>
            intro h
            have h : ¬ (j : Int) < 2 := by simpa using h
            rw [if_neg (by omega)]
            ktd_rel
          case kb2 => ktd_rel
          case kd2 => exact rfl
        case tb => rw [s1, s2]; rfl
      case sub => exact Sub2 rfl rfl
    case rest =>
      rintro σe μe ⟨rfl, _, rfl⟩
      exact ExS.retW (by ktd_rel)
end
-- part P13
/-- the source of figures stands -/
def Src (μ : Mu) (a : Addr) : Prop := ∃ p q : Int, μ a = some [.int p, .int q] ∧ 0 ≤ p ∧ 0 ≤ q ∧ q < 2147483647
theorem Src.ne {μ : Mu} {a : Addr} (h : Src μ a) : μ a ≠ none := by obtain ⟨p, q, h, _⟩ := h; rw [h]; simp
section
variable {w : World} {mean : ExcName → Option Value} {mg mb : Str → Option Value} {μ : Mu}
theorem take_spec (a : Addr) (hS : Src μ a) (top : Nat) (h0 : 0 < top) (h1 : top ≤ 100) : ∃ (fig : Nat) (ds : List D), fig < top ∧ (∀ ν : Mu, Src (ν.put a ds) a) ∧ CallS (G w mean mg mb) 1 μ (.ref 192) [.mref a, .int top] (.int fig) (μ.put a ds) := by
  obtain ⟨p, q, hm, hp, hq, hq2⟩ := hS
  have ht : (top : Int) ≠ 0 := by omega
  have hts : (Int.natAbs (top : Int)).log2 < 9000 := log2_small (k := 7) (by simp; omega) (by simp; omega) (by decide)
  by_cases hpos : 0 < p
  · have hf : p.fmod top = ((p.fmod top).toNat : Int) := by
      rw [Int.fmod_eq_emod_of_nonneg _ (by omega)]
      have := Int.emod_nonneg p ht
      omega
    have hlt : (p.fmod top).toNat < top := by
      rw [Int.fmod_eq_emod_of_nonneg _ (by omega)]
      have := Int.emod_lt_of_pos p (show (0 : Int) < top by omega)
      omega
    refine ⟨(p.fmod top).toNat, [.int (p.fdiv top), .int q], hlt, fun ν => ⟨_, _, Mu.put_self .., ?_, hq, hq2⟩, ?_⟩
    · rw [Int.fdiv_eq_ediv_of_nonneg _ (by omega)]
      exact Int.ediv_nonneg hp (by omega)
    · clear hlt
      refine' CallS.def_ (n := 0) (ex := []) (dex := []) (xs := [Str.ofString "source", Str.ofString "top"]) (σ' := []) (by k_mem) (by k_mem) ?h3 (fun _ => .nil) rfl (by decide) ?h4 ?h5 rfl rfl rfl
      case h3 => intro s vs X hl; match vs, hl with | [v0, v1], _ => first | exact BindsTo.of_eq rfl | exact binds_K X rfl (by k_mem) rfl rfl rfl
      case h4 => decide
      case h5 =>
        refine' ExS.ifT (TsS.to ?t1 (boolT hpos)) ?b1
        case t1 => k_all
        case b1 =>
          k_updF
          refine' ExS.cons (Ex1.setItem (a := a) (ds := [.int p, .int q]) (j := 0) (d := .int (p.fdiv top)) ?s1 ?s2 ?s3 hm (Nat.le_of_ble_eq_true rfl) (Nat.le_of_ble_eq_true rfl)) ?rest
          case s1 => ktd_rel
          case s2 => ktd_rel
          case s3 => exact EvS.int
          case rest =>
            show ExS _ _ _ _ (μ.put a [.int (p.fdiv top), .int q]) _ _ _ _
            refine' ExS.retW (EvS.to (d := .int (p.fmod top)) ?f1 (by rw [← hf]))
            case f1 => ktd_rel
  · have hq60 : q.natAbs < 2 ^ 60 := by omega
    have hm1 : (2147483647 : Int) ≠ 0 := by decide
    have hm2 : (2147483629 : Int) ≠ 0 := by decide
    have h32 : (32 : Int) ≠ 0 := by decide
    have hml1 : (Int.natAbs (2147483647 : Int)).log2 < 9000 := by decide +kernel
    have hml2 : (Int.natAbs (2147483629 : Int)).log2 < 9000 := by decide +kernel
    have hml3 : (Int.natAbs (32 : Int)).log2 < 9000 := by decide +kernel
    generalize hq' : (q * 39373 + 7).fmod 2147483647 = q'
    have hb : 0 ≤ q' ∧ q' < 2147483647 := by
      rw [← hq', Int.fmod_eq_emod_of_nonneg _ (by omega)]
      exact ⟨Int.emod_nonneg _ (by omega), Int.emod_lt_of_pos _ (by omega)⟩
    have hq60' : q'.natAbs < 2 ^ 60 := by omega
    have hf : (((q' * q').fmod 2147483629).fdiv 32).fmod top = (((((q' * q').fmod 2147483629).fdiv 32).fmod top).toNat : Int) := by
      rw [Int.fmod_eq_emod_of_nonneg _ (show (0 : Int) ≤ top by omega)]
      have := Int.emod_nonneg (((q' * q').fmod 2147483629).fdiv 32) ht
      omega
    have hlt : ((((q' * q').fmod 2147483629).fdiv 32).fmod top).toNat < top := by
      rw [Int.fmod_eq_emod_of_nonneg _ (show (0 : Int) ≤ top by omega)]
      have := Int.emod_lt_of_pos (((q' * q').fmod 2147483629).fdiv 32) (show (0 : Int) < top by omega)
      omega
    refine ⟨_, [.int p, .int q'], hlt, fun ν => ⟨_, _, Mu.put_self .., hp, hb.1, hb.2⟩, ?_⟩
    refine' CallS.def_ (n := 0) (ex := []) (dex := []) (xs := [Str.ofString "source", Str.ofString "top"]) (σ' := []) (by k_mem) (by k_mem) ?h3 (fun _ => .nil) rfl (by decide) ?h4 ?h5 rfl rfl rfl
    case h3 => intro s vs X hl; match vs, hl with | [v0, v1], _ => first | exact BindsTo.of_eq rfl | exact binds_K X rfl (by k_mem) rfl rfl rfl
    case h4 => decide
    case h5 =>
      refine' ExS.ifF (TsS.to ?t1 (boolF hpos)) ?b1
      case t1 => k_all
      case b1 =>
        refine' ExS.cons (Ex1.setItem (a := a) (ds := [.int p, .int q]) (j := 1) (d := .int q') ?s1 ?s2 ?s3 hm (Nat.le_of_ble_eq_true rfl) (Nat.le_of_ble_eq_true rfl)) ?rest
        case s1 =>
          rw [← hq']
          ktd_rel
        case s2 => ktd_rel
        case s3 => exact EvS.int
        case rest =>
          have hmm : (μ.put a [.int p, .int q']) a = some [.int p, .int q'] := Mu.put_self ..
          show ExS _ _ _ _ (μ.put a [.int p, .int q']) _ _ _ _
          rw [← hf]
          exact ExS.retW (by ktd_rel)
theorem one_spec (a : Addr) (hS : Src μ a) (ds : List D) (h0 : 0 < ds.length) (h1 : ds.length ≤ 100) : ∃ (d : D) (es : List D), d ∈ ds ∧ (∀ ν : Mu, Src (ν.put a es) a) ∧ CallS (G w mean mg mb) 2 μ (.ref 199) [.mref a, .lst ds] d (μ.put a es) := by
  obtain ⟨fig, es, hlt, hS', hc⟩ := take_spec (w := w) (mean := mean) (mg := mg) (mb := mb) a hS ds.length h0 h1
  refine ⟨ds[fig], es, List.getElem_mem _, hS', ?_⟩
  refine' CallS.def_ (n := 1) (ex := []) (dex := []) (xs := [Str.ofString "source", Str.ofString "things"]) (σ' := []) (by k_mem) (by k_mem) ?h3 (fun _ => .nil) rfl (by decide) ?h4 ?h5 rfl rfl rfl
  case h3 => intro s vs X hl; match vs, hl with | [v0, v1], _ => first | exact BindsTo.of_eq rfl | exact binds_K X rfl (by k_mem) rfl rfl rfl
  case h4 => decide
  case h5 =>
    have hl : ds.length ≤ 1000 := by omega
    have hp : pick (fig : Int) ds = some ds[fig] := pick_nat (by simp)
    exact ExS.retW (by ktd_rel)
end
-- part P14
section
variable {w : World} {mean : ExcName → Option Value} {mg mb : Str → Option Value} {μ : Mu}
theorem pool_spec (ns : List Int) (k : Nat) (hk : k ≤ 1) (hn : ns.length ≤ 63) : ∃ p q : Int, 0 ≤ p ∧ 0 ≤ q ∧ q < 2147483647 ∧ ∀ μ : Mu, CallP (G w mean mg mb) 1 μ (.ref 185) [.lst (ns.map .int), .int k] (NewP μ [.int p, .int q]) := by
  have hlen : (ns.map D.int).length ≤ 1000 := by simp; omega
  -- the cell
  obtain ⟨v, hv⟩ : ∃ v : Int, (k < ns.length → ns[k]? = some v) ∧ (¬ k < ns.length → v = 0) := by
    by_cases h : k < ns.length
    · exact ⟨ns[k], fun _ => by simp, fun h' => absurd h h'⟩
    · exact ⟨0, fun h' => absurd h' h, fun _ => rfl⟩
  generalize hbig : max v (-1 - v) = big
  have hb0 : 0 ≤ big := by omega
  have hm1 : (2147483647 : Int) ≠ 0 := by omega
  have hm2 : (2147483629 : Int) ≠ 0 := by omega
  have m1 : IntMulOk 7919 (k : Int) := .of_left (Nat.le_trans (intBits_le (k := 17) (by omega)) (by omega))
  have m2 : IntMulOk (7919 * (k : Int)) (k : Int) := mulB (k := 13 + 1) (j := 1) (natAbs_mul_lt (by decide) (by simp; omega)) (by simp; omega) (by decide) (by decide)
  have m3 : IntMulOk 31 (k : Int) := .of_left (Nat.le_trans (intBits_le (k := 17) (by omega)) (by omega))
  have m5 : IntMulOk (big.fmod 2147483629 + 7919 * (k : Int) * (k : Int) + 31 * (k : Int) + 17) 48271 := .of_right (Nat.le_trans (intBits_le (k := 17) (by omega)) (by omega))
  have m4 : IntMulOk big (if decide ((10 : Int) ^ Int.toNat 18 ≤ big) = true then 1 else 0) := .of_right (by split <;> decide +kernel)
  have hb2 : 0 ≤ ((big.fmod 2147483629 + 7919 * (k : Int) * (k : Int) + 31 * (k : Int) + 17) * 48271).fmod 2147483647 ∧ ((big.fmod 2147483629 + 7919 * (k : Int) * (k : Int) + 31 * (k : Int) + 17) * 48271).fmod 2147483647 < 2147483647 := by
    rw [Int.fmod_eq_emod_of_nonneg _ (show (0 : Int) ≤ 2147483647 by decide)]
    exact ⟨Int.emod_nonneg _ (by omega), Int.emod_lt_of_pos _ (by omega)⟩
  refine ⟨big * (if decide ((10 : Int) ^ Int.toNat 18 ≤ big) = true then 1 else 0), _, by split <;> omega, hb2.1, hb2.2, fun μ => ?_⟩
  refine' CallP.def_ (n := 0) (ex := []) (dex := []) (xs := [(Str.ofString "script"), (Str.ofString "k")]) (by k_mem) (by k_mem) ?h3 (fun _ => .nil) rfl (by decide) ?h4 ?h5 rfl rfl rfl
  case h3 => intro s vs X hl; match vs, hl with | [v, u], _ => exact BindsTo.of_eq rfl
  case h4 => decide
  case h5 =>
    refine' ExP.cons (xAssign (d := .int 0) ?a1 (.inl rfl) (fun _ _ => rfl)) ?r1
    case a1 => ktd_rel
    case r1 =>
    refine' ExP.cons (σ₁ := [((Str.ofString "script"), .lst (ns.map .int)), ((Str.ofString "k"), .int k), ((Str.ofString "cell"), .int v)]) (μ₁ := μ) ?if1 ?r2
    case if1 =>
      by_cases h : (k : Int) < ns.length
      · have hp : pick (k : Int) (ns.map D.int) = some (.int v) := pick_nat (by rw [List.getElem?_map, hv.1 (by omega)]; rfl)
        have hcl := call_lenL (g := G w mean mg mb) (n := 0) (μ := μ) hlen
        rw [List.length_map] at hcl
        refine' Ex1.if_ (v := true) (TsS.to ?t1 (boolT h)) (fun _ => ?b1) (fun e => by cases e)
        case t1 => k_all
        case b1 =>
          refine' ExS.weak (ExS.cons (xAssign (d := .int v) ?a2 (.inl rfl) (fun _ _ => rfl)) ExS.nil) (Sub3 rfl rfl rfl)
          case a2 => ktd_rel
      · have hv0 : v = 0 := hv.2 (by omega)
        have hcl := call_lenL (g := G w mean mg mb) (n := 0) (μ := μ) hlen
        rw [List.length_map] at hcl
        refine' Ex1.if_ (v := false) (TsS.to ?t1 (boolF h)) (fun e => by cases e) (fun _ => ?b1)
        case t1 => k_all
        case b1 =>
          rw [hv0]
          exact ExS.nil.weak (Sub3 rfl rfl rfl)
    case r2 =>
    refine' ExP.cons (xAssign (d := .int big) ?a3 (.inl rfl) (fun _ _ => rfl)) ?r3
    case a3 =>
      rw [← hbig]
      ktd_rel
    case r3 =>
    refine' ExP.cons (xAssign (d := .int (((big.fmod 2147483629 + 7919 * (k : Int) * (k : Int) + 31 * (k : Int) + 17) * 48271).fmod 2147483647)) ?a4 (.inl rfl) (fun _ _ => rfl)) ?r4
    case a4 => ktd_rel
    case r4 =>
    refine' ExP.retList ?l1 (Nat.le_of_ble_eq_true rfl)
    case l1 => ktd_rel
end
-- part P15
/-- the source turns, and stands -/
def Stp (μ : Mu) (a : Addr) (μ' : Mu) : Prop := ∃ es, μ' = μ.put a es ∧ Src μ' a
theorem Mu.put_same {μ : Mu} {a : Addr} {ds : List D} (h : μ a = some ds) : μ.put a ds = μ := by
  funext b
  unfold Mu.put
  by_cases q : b = a
  · rw [if_pos q, q, h]
  · rw [if_neg q]
theorem Stp.refl {μ : Mu} {a : Addr} (h : Src μ a) : Stp μ a μ := by
  obtain ⟨p, q, hm, r⟩ := id h
  exact ⟨_, (Mu.put_same hm).symm, h⟩
theorem Stp.trans {μ μ' μ'' : Mu} {a : Addr} (h : Stp μ a μ') (k : Stp μ' a μ'') : Stp μ a μ'' := by
  obtain ⟨es, rfl, _⟩ := h
  obtain ⟨fs, rfl, s⟩ := k
  exact ⟨fs, by rw [Mu.put_put], s⟩
theorem Stp.src {μ μ' : Mu} {a : Addr} (h : Stp μ a μ') : Src μ' a := by obtain ⟨es, _, s⟩ := h; exact s
section
variable {w : World} {mean : ExcName → Option Value} {mg mb : Str → Option Value} {μ : Mu}
theorem take' (a : Addr) (hS : Src μ a) (top : Nat) (h0 : 0 < top) (h1 : top ≤ 100) : ∃ (fig : Nat) (μ' : Mu), fig < top ∧ Stp μ a μ' ∧ CallS (G w mean mg mb) 1 μ (.ref 192) [.mref a, .int top] (.int fig) μ' := by
  obtain ⟨fig, ds, h2, h3, h4⟩ := take_spec (w := w) (mean := mean) (mg := mg) (mb := mb) a hS top h0 h1
  exact ⟨fig, _, h2, ⟨ds, rfl, h3 μ⟩, h4⟩
theorem one' (a : Addr) (hS : Src μ a) (ds : List D) (h0 : 0 < ds.length) (h1 : ds.length ≤ 100) : ∃ (d : D) (μ' : Mu), d ∈ ds ∧ Stp μ a μ' ∧ CallS (G w mean mg mb) 2 μ (.ref 199) [.mref a, .lst ds] d μ' := by
  obtain ⟨d, es, h2, h3, h4⟩ := one_spec (w := w) (mean := mean) (mg := mg) (mb := mb) a hS ds h0 h1
  exact ⟨d, _, h2, ⟨es, rfl, h3 μ⟩, h4⟩
end
section
variable {g : Gl} {sc : Scope} {n : Nat} {σ : Sg} {μ : Mu}
theorem C1.mapP {x y : Str} {p q tp : Pos} {k0 : Nat} {elt : Expr} (f : D → D) (hx : sc.names.lookup x = some .local ∨ sc.names.lookup x = some .cell) (hy : sc.names.lookup y = some .local ∨ sc.names.lookup y = some .cell) (hn : σ.lookup x = none) (hyn : σ.lookup y = none) (hxy : (y == x) = false) : ∀ (ds : List D),
    (∀ d ∈ ds, ∃ a b, d = .tup [a, b] ∧ EvS g sc n ((σ.put x a).put y b) μ elt (f d) μ) → C1 g sc n (.Tuple [.Name x p, .Name y q] k0 tp) [] elt ds σ μ (ds.map f) σ μ
  | [], _ => .nil
  | d :: ds, h => by
    have ih := C1.mapP (p := p) (q := q) (tp := tp) (k0 := k0) (elt := elt) f hx hy hn hyn hxy ds fun e he => h e (.tail _ he)
    obtain ⟨a, b, rfl, h1⟩ := h d (.head _)
    rw [List.map_cons]
    exact .take (AsN.pair (AsN.name hx (by simp [tnames])) (AsN.name hy (by simp [tnames]))) IfS.nil h1 (Sub.trans (Sub.put hn) (Sub.put (by rw [lookup_put, hxy]; simpa using hyn))) ih
end
def nums : List Rat := [mkRat 0 1, mkRat 3 2, mkRat (-5) 3, mkRat 7 1, mkRat 1 4, mkRat (-2) 1]
theorem nums_sz : ∀ r ∈ nums, Sz 3 r := by unfold nums Sz; decide +kernel
def fracD : D → D
  | .tup [.int t, .int b] => qd (mkRat t b.toNat)
  | d => d
def numD : List D := [.tup [.int 0, .int 1], .tup [.int 3, .int 2], .tup [.int (-5), .int 3], .tup [.int 7, .int 1], .tup [.int 1, .int 4], .tup [.int (-2), .int 1]]
theorem numD_map : numD.map fracD = nums.map qd := rfl
theorem flat_ld (ps : List (List Pt)) : ((ps.map ld).flatMap fun d => ((match d with | .lst l => l | _ => [] : List D)).map (idD d)) = ps.flatten.map pd := by
  induction ps with
  | nil => rfl
  | cons c r ih =>
    rw [List.map_cons, List.flatMap_cons, ih, List.flatten_cons, List.map_append]
    congr 1
    show (c.map pd).map (idD (ld c)) = c.map pd
    rw [List.map_map]; rfl
def endD (d e : D) : D :=
  match d, e with
  | .lst l, .int i => (pick i l).getD .none
  | _, _ => .none
def bothEnds (ps : List (List Pt)) : List Pt := ps.flatMap fun c => [fstP c, lstP c]
theorem both_ld (ps : List (List Pt)) (h : ∀ c ∈ ps, 0 < c.length) : ((ps.map ld).flatMap fun d => ([.int 0, .int (-1)] : List D).map (endD d)) = (bothEnds ps).map pd := by
  induction ps with
  | nil => rfl
  | cons c r ih =>
    rw [List.map_cons, List.flatMap_cons, ih fun c' hc => h c' (.tail _ hc)]
    have hc := h c (.head _)
    unfold bothEnds
    rw [List.flatMap_cons, List.map_append]
    congr 1
    show [(pick 0 (c.map pd)).getD .none, (pick (-1) (c.map pd)).getD .none] = [pd (fstP c), pd (lstP c)]
    rw [fstP_get hc, pick_lastP hc]; rfl
theorem isBox_congr {ps qs : List Pt} {B : Box} (h : ∀ p, p ∈ ps ↔ p ∈ qs) (hB : IsBox ps B) : IsBox qs B := by
  refine ⟨?_, ?_, ?_, ?_, fun p hp => hB.all p ((h p).mpr hp)⟩
  · obtain ⟨p, hp, e⟩ := List.mem_map.mp hB.l; exact List.mem_map.mpr ⟨p, (h p).mp hp, e⟩
  · obtain ⟨p, hp, e⟩ := List.mem_map.mp hB.t; exact List.mem_map.mpr ⟨p, (h p).mp hp, e⟩
  · obtain ⟨p, hp, e⟩ := List.mem_map.mp hB.r; exact List.mem_map.mpr ⟨p, (h p).mp hp, e⟩
  · obtain ⟨p, hp, e⟩ := List.mem_map.mp hB.b; exact List.mem_map.mpr ⟨p, (h p).mp hp, e⟩
theorem ends_both {c : List Pt} (hc : 0 < c.length) (d : Nat) (p : Pt) : p ∈ ends c d ↔ p ∈ bothEnds (parts c d) := by
  constructor
  · intro h
    rcases List.mem_append.mp h with h | h
    · obtain ⟨b, hb, rfl⟩ := List.mem_map.mp h
      exact List.mem_flatMap.mpr ⟨b, hb, by simp⟩
    · simp at h; subst h
      obtain ⟨b, hb, e⟩ := last_there (c := c) d
      exact List.mem_flatMap.mpr ⟨b, hb, by simp [e]⟩
  · intro h
    obtain ⟨b, hb, h⟩ := List.mem_flatMap.mp h
    simp only [List.mem_cons, List.not_mem_nil, or_false] at h
    rcases h with rfl | rfl
    · exact List.mem_append_left _ (List.mem_map.mpr ⟨b, hb, rfl⟩)
    · exact lasts_in hc d b hb
theorem bj_in {A B : Box} (h : A.In B) {j : Nat} (hj : j < 4) : (cmpR (bj A j) (bj B j) == (if j < 2 then -1 else 1)) = false := by
  have a := h
  unfold Box.In at a
  have hj : j = 0 ∨ j = 1 ∨ j = 2 ∨ j = 3 := by omega
  have lo : ∀ u v : Rat, v ≤ u → (cmpR u v == -1) = false := fun u v q => by
    have h1 : ¬ u < v := Rat.not_lt.mpr q
    rw [← cmpR_lt] at h1
    simp; omega
  have hi : ∀ u v : Rat, u ≤ v → (cmpR u v == 1) = false := fun u v q => by
    have h1 : ¬ v < u := Rat.not_lt.mpr q
    rw [← cmpR_gt] at h1
    simp; omega
  rcases hj with rfl | rfl | rfl | rfl
  · exact lo _ _ a.1
  · exact lo _ _ a.2.1
  · exact hi _ _ a.2.2.1
  · exact hi _ _ a.2.2.2
section
variable {w : World} {mean : ExcName → Option Value} {mg mb : Str → Option Value} {μ : Mu}
theorem take_e (a : Addr) (hS : Src μ a) (top : Nat) (h0 : 0 < top) (h1 : top ≤ 100) : CallE (G w mean mg mb) 1 μ (.ref 192) [.mref a, .int top] fun d μ' => ∃ fig : Nat, fig < top ∧ d = .int fig ∧ Stp μ a μ' := by
  obtain ⟨fig, μ', h2, h3, h4⟩ := take' (w := w) (mean := mean) (mg := mg) (mb := mb) a hS top h0 h1
  exact ⟨_, μ', ⟨fig, h2, rfl, h3⟩, h4⟩
theorem one_e (a : Addr) (hS : Src μ a) (ds : List D) (h0 : 0 < ds.length) (h1 : ds.length ≤ 100) : CallE (G w mean mg mb) 2 μ (.ref 199) [.mref a, .lst ds] fun d μ' => d ∈ ds ∧ Stp μ a μ' := by
  obtain ⟨d, μ', h2, h3, h4⟩ := one' (w := w) (mean := mean) (mg := mg) (mb := mb) a hS ds h0 h1
  exact ⟨d, μ', ⟨h2, h3⟩, h4⟩
end
-- part P16
def itlD : D → List D
  | .lst l => l
  | _ => []
theorem flat_ld' (ps : List (List Pt)) : ((ps.map ld).flatMap fun d => (itlD d).map (idD d)) = ps.flatten.map pd := flat_ld ps
theorem both_length (ps : List (List Pt)) : (bothEnds ps).length = ps.length * 2 := by
  induction ps with
  | nil => rfl
  | cons a r ih => simp only [bothEnds, List.flatMap_cons, List.length_append, List.length_cons, List.length_nil] at ih ⊢; omega
theorem grd_small (c : List Pt) (h1 : 2 ≤ c.length) (h2 : c.length ≤ 4) (d : Nat) (hd : d ≤ 2) : grd (c.length - 1) d 3 ≤ 9000 := by
  have a : c.length - 1 = 1 ∨ c.length - 1 = 2 ∨ c.length - 1 = 3 := by omega
  have b : d = 0 ∨ d = 1 ∨ d = 2 := by omega
  rcases a with e | e | e <;> rcases b with rfl | rfl | rfl <;> rw [e] <;> decide +kernel
section
variable {w : World} {mean : ExcName → Option Value} {mg mb : Str → Option Value} {μ : Mu}
/-- the curve's part of the law, from the curve and its depth on -/
theorem curve_facts (c : List Pt) (dep : Nat) (h1 : 2 ≤ c.length) (h2 : c.length ≤ 4) (hd : dep ≤ 1) (hs : ∀ p ∈ c, PSz 3 p) : ∃ B1 B2 B3 B4 : Box, B3.In B1 ∧ B2.In B1 ∧ B2.In B4 ∧
    (∀ j, Sz 9000 (bj B1 j) ∧ Sz 9000 (bj B2 j) ∧ Sz 9000 (bj B3 j) ∧ Sz 9000 (bj B4 j)) ∧
    ∀ μ : Mu, CallS (G w mean mg mb) 7 μ (.ref 245) [td c, .int dep] (.lst ((parts c dep).map ld)) μ ∧ CallS (G w mean mg mb) 8 μ (.ref 172) [td c, .int dep] (bd B1) μ ∧ CallS (G w mean mg mb) 8 μ (.ref 178) [td c, .int dep] (bd B2) μ ∧
      CallS (G w mean mg mb) 8 μ (.ref 172) [td c, .int ((dep : Int) + 1)] (bd B3) μ ∧ CallS (G w mean mg mb) 8 μ (.ref 178) [td c, .int ((dep : Int) + 1)] (bd B4) μ ∧
      CallS (G w mean mg mb) 4 μ (.ref 250) [bd B1, .lst ((parts c dep).flatten.map pd)] (.bool true) μ ∧ CallS (G w mean mg mb) 4 μ (.ref 250) [bd B2, .lst ((bothEnds (parts c dep)).map pd)] (.bool true) μ := by
  have hc : 0 < c.length := by omega
  have ne : ∀ d, (parts c d).flatten ≠ [] := fun d e => by
    have := parts_flat_len hc d
    rw [e] at this
    have h3 : 0 < 2 ^ d * c.length := Nat.mul_pos (Nat.pow_pos (by decide)) hc
    simp at this; omega
  have ne2 : ∀ d, ends c d ≠ [] := fun d e => by simp [ends] at e
  obtain ⟨B1, b1⟩ := box_ex _ (ne dep)
  obtain ⟨B2, b2⟩ := box_ex _ (ne2 dep)
  obtain ⟨B3, b3⟩ := box_ex _ (ne (dep + 1))
  obtain ⟨B4, b4⟩ := box_ex _ (ne2 (dep + 1))
  have g0 := grd_small c h1 h2 dep (by omega)
  have g1 := grd_small c h1 h2 (dep + 1) (by omega)
  have s0 : ∀ p ∈ (parts c dep).flatten, PSz 9000 p := fun p hp => by
    obtain ⟨b, hb, hp⟩ := List.mem_flatten.mp hp
    exact (parts_sz hc hs dep b hb p hp).mono g0
  have s1 : ∀ p ∈ (parts c (dep + 1)).flatten, PSz 9000 p := fun p hp => by
    obtain ⟨b, hb, hp⟩ := List.mem_flatten.mp hp
    exact (parts_sz hc hs (dep + 1) b hb p hp).mono g1
  have lf : (parts c dep).flatten.length ≤ 8 := by
    rw [parts_flat_len hc]
    have : 2 ^ dep ≤ 2 ^ 1 := Nat.pow_le_pow_right (by decide) hd
    have := Nat.mul_le_mul this h2
    omega
  have lp : (parts c dep).length ≤ 2 := by
    rw [parts_count]
    exact (show 2 ^ dep ≤ 2 ^ 1 from Nat.pow_le_pow_right (by decide) hd)
  have e : ((dep + 1 : Nat) : Int) = (dep : Int) + 1 := by omega
  refine ⟨B1, B2, B3, B4, held_in hc b3 b1, reached_in hc b2 b1, reached_grow b2 b4, fun j => ⟨bj_sz b1 s0 j, bj_sz b2 (fun p hp => s0 p (ends_in hc p hp)) j, bj_sz b3 s1 j, bj_sz b4 (fun p hp => s1 p (ends_in hc p hp)) j⟩, fun μ => ⟨?_, ?_, ?_, ?_, ?_, ?_, ?_⟩⟩
  · exact parts_spec c dep hc h2 (by omega) hs g0
  · exact curve_box_spec c dep B1 b1 hc h2 (by omega) hs g0
  · exact reached_box_spec c dep B2 b2 hc h2 (by omega) hs g0
  · rw [← e]; exact curve_box_spec c (dep + 1) B3 b3 hc h2 (by omega) hs g1
  · rw [← e]; exact reached_box_spec c (dep + 1) B4 b4 hc h2 (by omega) hs g1
  · exact around_spec B1 _ b1 s0 (by omega) (by omega)
  · refine around_spec B2 _ (isBox_congr (ends_both hc dep) b2) (fun p hp => s0 p (ends_in hc p ((ends_both hc dep p).mpr hp))) (by omega) (by rw [both_length]; omega)
end
-- part P17
theorem numD_mem : ∀ d ∈ numD, ∃ (t : Int) (b : Nat), 0 < b ∧ b < 100 ∧ d = .tup [.int t, .int b] := by
  intro d hd
  simp only [numD, List.mem_cons, List.not_mem_nil, or_false] at hd
  rcases hd with rfl | rfl | rfl | rfl | rfl | rfl
  · exact ⟨_, 1, by decide, by decide, rfl⟩
  · exact ⟨_, 2, by decide, by decide, rfl⟩
  · exact ⟨_, 3, by decide, by decide, rfl⟩
  · exact ⟨_, 1, by decide, by decide, rfl⟩
  · exact ⟨_, 4, by decide, by decide, rfl⟩
  · exact ⟨_, 1, by decide, by decide, rfl⟩
theorem all_pd : ∀ (out : List D), (∀ e ∈ out, ∃ p : Pt, e = pd p ∧ PSz 3 p) → ∃ c : List Pt, out = c.map pd ∧ ∀ p ∈ c, PSz 3 p
  | [], _ => ⟨[], rfl, fun p hp => by cases hp⟩
  | e :: out, h => by
    obtain ⟨p, rfl, hp⟩ := h e (.head _)
    obtain ⟨c, rfl, hc⟩ := all_pd out fun e he => h e (.tail _ he)
    refine ⟨p :: c, rfl, fun q hq => ?_⟩
    rcases List.mem_cons.mp hq with rfl | hq
    · exact hp
    · exact hc q hq
section
variable {w : World} {mean : ExcName → Option Value} {mg mb : Str → Option Value} {μ : Mu}
theorem curve_right_spec (a : Addr) (hS : Src μ a) : CallE (G w mean mg mb) 9 μ (.ref 255) [.mref a] fun d μ' => d = .bool true ∧ Stp μ a μ' := by
  refine' CallE.def_ (n := 8) (xs := [Str.ofString "source"]) (by k_mem) (by k_mem) ?h3 rfl (by decide) ?h4 ?h5 rfl rfl rfl
  case h3 => intro s vs X hl; match vs, hl with | [v0], _ => first | exact BindsTo.of_eq rfl | exact binds_K X rfl (by k_mem) rfl rfl rfl
  case h4 => decide
  case h5 =>
    -- numbers
    refine' ExE.cons (xAssign (d := .lst (nums.map qd)) ?a1 ?a2 ?a3) ?r1
    case a1 =>
      rw [← numD_map]
      refine' EvS.comp1 (d := .lst numD) (compSg _ _) ?hi rfl (C1.mapP fracD ?hx ?hy ?hn ?hyn ?hxy numD ?hel) ?hsz (compSub_self _ _) CompNames.mk' ?hns ?hsm ?hs
      case hi =>
        unfold numD
        ktd_rel
      case hx => exact .inl rfl
      case hy => exact .inl rfl
      case hn => exact rfl
      case hyn => exact rfl
      case hxy => decide
      case hsz => exact Nat.le_of_ble_eq_true rfl
      case hns => intro x hx; simp only [tnames, List.mem_cons, List.not_mem_nil, or_false] at hx; rcases hx with rfl | rfl <;> exact .inl rfl
      case hsm => intro a b h; cases h
      case hs => exact fun _ _ => rfl
      case hel =>
        intro d hd
        obtain ⟨t, b, h0, h1, rfl⟩ := numD_mem d hd
        have hc := (fraction_spec (w := w) (mean := mean) (mg := mg) (mb := mb) (μ := μ) t b h0 (log2_small (k := 7) (by omega) h0 (by decide))).more (m := 8) (by decide)
        refine ⟨_, _, rfl, ?_⟩
        have e : fracD (.tup [.int t, .int (b : Nat)]) = qd (mkRat t b) := by simp only [fracD, Int.toNat_natCast]
        rw [e]
        ktd_rel
    case a2 => exact .inr rfl
    case a3 => exact fun e h => by cases e; cases h; rfl
    case r1 =>
    refine' ExE.strong [((Str.ofString "source"), .mref a), ((Str.ofString "numbers"), .lst (nums.map qd))] ?r2 (Sub2 rfl rfl)
    case r2 =>
    -- the curve
    refine' ExE.asg (fun d ν => ∃ c : List Pt, d = td c ∧ 2 ≤ c.length ∧ c.length ≤ 4 ∧ (∀ p ∈ c, PSz 3 p) ∧ Stp μ a ν) ?c1 ?c2 ?c3 ?c4
    case c1 => exact .inl rfl
    case c2 => exact fun e h => by cases e; cases h; rfl
    case c3 =>
      refine' EvE.call1 (fun d ν => ∃ c : List Pt, d = .lst (c.map pd) ∧ 2 ≤ c.length ∧ c.length ≤ 4 ∧ (∀ p ∈ c, PSz 3 p) ∧ Stp μ a ν) ?t1 rfl ?t2 ?t3 ?t4 ?t5 ?t6
      case t1 => k_mem
      case t4 => decide
      case t5 => exact fun _ => rfl
      case t6 => exact fun _ => rfl
      case t3 =>
        rintro d ν ⟨c, rfl, h1, h2, h3, h4⟩
        exact ⟨_, _, ⟨c, rfl, h1, h2, h3, h4⟩, call_tupL (by simp; omega)⟩
      case t2 =>
        refine' EvE.draws (Stp μ a) (fun d => ∃ p : Pt, d = pd p ∧ PSz 3 p) 4 (by decide) ?d1 ?d2 ?d3 ?d4 ?d5 ?d6 ?d7
        case d2 => exact .inl rfl
        case d3 => exact rfl
        case d4 => exact CompNames.mk'
        case d5 => exact .inl rfl
        case d6 => exact fun _ _ => rfl
        case d1 =>
          refine' EvE.call1 (fun d ν => ∃ i : Nat, i < 3 ∧ d = .int ((2 : Int) + i) ∧ Stp μ a ν) ?u1 rfl ?u2 ?u3 ?u4 ?u5 ?u6
          case u1 => k_mem
          case u4 => decide
          case u5 => exact fun _ => rfl
          case u6 => exact fun _ => rfl
          case u3 =>
            rintro d ν ⟨i, hi, rfl, hst⟩
            have e : ((2 : Int) + i) = ((2 + i : Nat) : Int) := by omega
            rw [e]
            refine ⟨.rng 0 (2 + i), ν, ⟨2 + i, by omega, rfl, hst, fun out μ₂ ho hP hJ => ?_⟩, call_range1⟩
            obtain ⟨c, rfl, hc⟩ := all_pd out hP
            exact ⟨c, rfl, by simpa using (by omega : 2 ≤ (c.map pd).length), by simpa using (by omega : (c.map pd).length ≤ 4), hc, hJ⟩
          case u2 =>
            refine' EvE.addR EvS.int (EvE.call ?v1 rfl ?v2 ((take_e a hS 3 (by decide) (by decide)).mono ?v3 |>.more (by decide)) ?v4 ?v5 ?v6)
            case v1 => k_mem
            case v2 =>
              show EvL _ _ _ _ _ _ _ [.mref a, .int 3] _
              ktd_rel
            case v3 =>
              rintro d μ' ⟨fig, h1, rfl, h2⟩
              exact ⟨_, rfl, fig, h1, rfl, h2⟩
            case v4 => decide
            case v5 => exact fun _ => rfl
            case v6 => exact fun _ => rfl
        case d7 =>
          intro d ν hst
          have pick1 : ∀ ν : Mu, Stp μ a ν → CallE (G w mean mg mb) 8 ν (.ref 199) [.mref a, .lst (nums.map qd)] fun d μ' => ∃ r : Rat, d = qd r ∧ Sz 3 r ∧ Stp μ a μ' := fun ν hst => by
            refine (one_e a hst.src (nums.map qd) (by decide) (by decide)).mono (fun d μ' h => ?_) |>.more (by decide)
            obtain ⟨r, hr, rfl⟩ := List.mem_map.mp h.1
            exact ⟨r, rfl, nums_sz r hr, hst.trans h.2⟩
          refine' EvE.tup2 (fun d μ' => ∃ r : Rat, d = qd r ∧ Sz 3 r ∧ Stp μ a μ') (EvE.call ?v1 rfl ?v2 (pick1 ν hst) ?v4 ?v5 ?v6) ?w1 ?w2 ?w3
          case v1 => k_mem
          case v2 => ktd_rel
          case v4 => decide
          case v5 => exact fun _ => rfl
          case v6 => exact fun _ => rfl
          case w2 => exact fun _ => rfl
          case w3 => exact fun _ => rfl
          case w1 =>
            rintro d1 μ1 ⟨r, rfl, hr, hst1⟩
            refine' EvE.call ?v1 rfl ?v2 ((pick1 μ1 hst1).mono ?v3) ?v4 ?v5 ?v6
            case v1 => k_mem
            case v2 => ktd_rel
            case v4 => decide
            case v5 => exact fun _ => rfl
            case v6 => exact fun _ => rfl
            case v3 =>
              rintro d2 μ2 ⟨r2, rfl, hr2, hst2⟩
              exact ⟨⟨(r, r2), rfl, hr, hr2⟩, hst2⟩
    case c4 =>
    rintro d1 μ1 ⟨c, rfl, hc1, hc2, hcs, hst1⟩
    refine' ExE.asg (fun d ν => ∃ dep : Nat, dep < 2 ∧ d = .int dep ∧ Stp μ a ν) ?e1 ?e2 ?e3 ?e4
    case e1 => exact .inl rfl
    case e2 => exact fun _ _ => rfl
    case e3 =>
      refine' EvE.call ?v1 rfl ?v2 ((take_e a hst1.src 2 (by decide) (by decide)).mono ?v3 |>.more (by decide)) ?v4 ?v5 ?v6
      case v1 => k_mem
      case v2 =>
        show EvL _ _ _ _ _ _ _ [.mref a, .int 2] _
        ktd_rel
      case v3 =>
        rintro d μ' ⟨fig, h1, rfl, h2⟩
        exact ⟨fig, h1, rfl, hst1.trans h2⟩
      case v4 => decide
      case v5 => exact fun _ => rfl
      case v6 => exact fun _ => rfl
    case e4 =>
    rintro d2 μ2 ⟨dep, hdep, rfl, hst2⟩
    obtain ⟨B1, B2, B3, B4, i31, i21, i24, hsz, hall⟩ := curve_facts (w := w) (mean := mean) (mg := mg) (mb := mb) c dep hc1 hc2 (by omega) hcs
    obtain ⟨k1, k2, k3, k4, k5, k6, k7⟩ := hall μ2
    have k1 := k1.more (m := 8) (by decide)
    have k6 := k6.more (m := 8) (by decide)
    have k7 := k7.more (m := 8) (by decide)
    have hc0 : 0 < c.length := by omega
    have lb : ∀ b ∈ parts c dep, 0 < b.length := fun b hb => by rw [parts_len hc0 dep b hb]; exact hc0
    have lp : (parts c dep).length ≤ 2 := by
      rw [parts_count]
      exact (show 2 ^ dep ≤ 2 ^ 1 from Nat.pow_le_pow_right (by decide) (by omega))
    refine' ExE.ofS (d := .bool true) ?body ⟨rfl, hst2⟩
    case body =>
    k_updF
    k_updF
    refine' ExS.ifF (TsS.to (b := !true) (tNot (tCall ?g1)) rfl) ?r3
    case g1 =>
      rw [← flat_ld'] at k6
      refine' eCall ?x1 rfl (lCons ?x5 (lCons ?x6 EvL.nil ?x7) ?x8) k6 ?x2 ?x3 ?x4
      case x1 => k_mem
      case x2 => decide
      case x3 => exact fun _ => rfl
      case x4 => exact fun _ => rfl
      case x7 => exact fun _ => rfl
      case x8 => exact fun _ => rfl
      case x5 => ktd_rel
      case x6 =>
        refine' eFlat (fun d => d) (itlD) (idD) ?hi7 ?hd7 ?hsz7 ?hx7 ?hy7 ?hn7 ?hyn7 ?hxy7 ?N7 ?hns7 ?hns27 ?hsm7 ?hs7 ?hs27 ?h7
        case hi7 => ktd_rel
        case hd7 => exact rfl
        case hsz7 => rw [flat_ld', List.length_map, parts_flat_len hc0]; have h22 : 2 ^ dep ≤ 2 ^ 1 := Nat.pow_le_pow_right (by decide) (by omega); have := Nat.mul_le_mul h22 hc2; omega
        case hx7 => first | exact .inl rfl | exact .inr rfl
        case hy7 => first | exact .inl rfl | exact .inr rfl
        case hn7 => exact rfl
        case hyn7 => exact rfl
        case hxy7 => decide
        case N7 => exact CompNames.mk'
        case hns7 => first | exact .inl rfl | exact .inr rfl
        case hns27 => first | exact .inl rfl | exact .inr rfl
        case hsm7 => first | (intro a b h; cases h; done) | (intro a b h; cases h; omega)
        case hs7 => exact fun _ _ => rfl
        case hs27 => exact fun _ _ => rfl
        case h7 =>
          intro d hd
          obtain ⟨b, hb, rfl⟩ := List.mem_map.mp hd
          refine' ⟨?ev, rfl, ?sm, ?el⟩
          case ev => ktd_rel
          case sm => intro a b h; cases h
          case el =>
            intro e he
            show EvS _ _ _ _ _ _ e _
            ktd_rel
    case r3 =>
    refine' ExS.ifF (TsS.to (b := !true) (tNot (tCall ?g2)) rfl) ?r4
    case g2 =>
      rw [← both_ld _ lb] at k7
      refine' eCall ?x1 rfl (lCons ?x5 (lCons ?x6 EvL.nil ?x7) ?x8) k7 ?x2 ?x3 ?x4
      case x1 => k_mem
      case x2 => decide
      case x3 => exact fun _ => rfl
      case x4 => exact fun _ => rfl
      case x7 => exact fun _ => rfl
      case x8 => exact fun _ => rfl
      case x5 => ktd_rel
      case x6 =>
        refine' eFlat (fun _ => .tup [.int 0, .int (-1)]) (fun _ => [.int 0, .int (-1)]) (endD) ?hi7 ?hd7 ?hsz7 ?hx7 ?hy7 ?hn7 ?hyn7 ?hxy7 ?N7 ?hns7 ?hns27 ?hsm7 ?hs7 ?hs27 ?h7
        case hi7 => ktd_rel
        case hd7 => exact rfl
        case hsz7 => rw [both_ld _ lb, List.length_map, both_length]; omega
        case hx7 => first | exact .inl rfl | exact .inr rfl
        case hy7 => first | exact .inl rfl | exact .inr rfl
        case hn7 => exact rfl
        case hyn7 => exact rfl
        case hxy7 => decide
        case N7 => exact CompNames.mk'
        case hns7 => first | exact .inl rfl | exact .inr rfl
        case hns27 => first | exact .inl rfl | exact .inr rfl
        case hsm7 => first | (intro a b h; cases h; done) | (intro a b h; cases h; omega)
        case hs7 => exact fun _ _ => rfl
        case hs27 => exact fun _ _ => rfl
        case h7 =>
          intro d hd
          obtain ⟨b, hb, rfl⟩ := List.mem_map.mp hd
          have q0 := fstP_get (lb b hb)
          have q1 := pick_lastP (lb b hb)
          refine' ⟨?ev, rfl, ?sm, ?el⟩
          case ev => ktd_rel
          case sm => intro a b h; cases h
          case el =>
            intro e he
            simp only [List.mem_cons, List.not_mem_nil, or_false] at he
            rcases he with rfl | rfl
            · have e : endD (ld b) (.int 0) = pd (fstP b) := by
                show (pick 0 (b.map pd)).getD .none = _
                rw [q0]; rfl
              rw [e]
              unfold ld
              ktd_rel
            · have e : endD (ld b) (.int (-1)) = pd (lstP b) := by
                show (pick (-1) (b.map pd)).getD .none = _
                rw [q1]; rfl
              rw [e]
              unfold ld
              ktd_rel
    case r4 =>
    k_updF
    have hr : CallS (G w mean mg mb) 8 μ2 (.type "range") [.int 4] (.rng 0 4) μ2 := call_range1 (m := 4)
    refine' xFor (fun done rest σ ν => ν = μ2 ∧ (∀ d ∈ rest, d ∈ rngItems 0 4) ∧ σ = [((Str.ofString "held"), bd B1), ((Str.ofString "reached"), bd B2), ((Str.ofString "more"), .lst [bd B3, bd B4])]) [((Str.ofString "held"), bd B1), ((Str.ofString "reached"), bd B2), ((Str.ofString "more"), .lst [bd B3, bd B4])] ?hi ?hd ?hsm ?hs ?hw ?h0 ?step ?rest
    case hi => ktd_rel
    case hd => exact rfl
    case hsm => intro a b h; cases h; omega
    case hs => exact fun _ _ => rfl
    case hw => exact Sub3 rfl rfl rfl
    case h0 => exact ⟨rfl, fun d hd => hd, rfl⟩
    case step =>
      rintro done d rest σ ν ⟨rfl, hrest, rfl⟩
      obtain ⟨j, hj, rfl⟩ := mem_rng (hrest d (.head _))
      refine' fStep [((Str.ofString "held"), bd B1), ((Str.ofString "reached"), bd B2), ((Str.ofString "more"), .lst [bd B3, bd B4])] (AsS.name (.inl rfl)) ?body ?sub ⟨rfl, fun d hd => hrest d (.tail _ hd), rfl⟩
      case body =>
        have p1 := pick_bj hj B1
        have p2 := pick_bj hj B2
        have p3 := pick_bj hj B3
        have p4 := pick_bj hj B4
        have m1 : pick 0 [bd B3, bd B4] = some (.tup [qd B3.l, qd B3.t, qd B3.r, qd B3.b]) := pick_zero
        have m2 : pick 1 [bd B3, bd B4] = some (.tup [qd B4.l, qd B4.t, qd B4.r, qd B4.b]) := rfl
        have z := hsz j
        have n1 := (compare_spec (w := w) (mean := mean) (mg := mg) (mb := mb) (μ := ν) (bj B3 j) (bj B1 j) z.2.2.1 z.1 (by decide)).more (m := 8) (by decide)
        have n2 := (compare_spec (w := w) (mean := mean) (mg := mg) (mb := mb) (μ := ν) (bj B2 j) (bj B1 j) z.2.1 z.1 (by decide)).more (m := 8) (by decide)
        have n3 := (compare_spec (w := w) (mean := mean) (mg := mg) (mb := mb) (μ := ν) (bj B2 j) (bj B4 j) z.2.1 z.2.2.2 (by decide)).more (m := 8) (by decide)
        refine' ExS.cons (xAssign (d := .lst ([cmpR (bj B3 j) (bj B1 j), cmpR (bj B2 j) (bj B1 j), cmpR (bj B2 j) (bj B4 j)].map .int)) ?x1 ?x2 ?x3) ?rest1
        case x1 =>
          show EvS _ _ _ [(_, .tup [_, _, _, _]), (_, .tup [_, _, _, _]), _, _] _ _ (.lst [.int _, .int _, .int _]) _
          ktd_rel
        case x2 => exact .inl rfl
        case x3 => exact fun _ _ => rfl
        case rest1 =>
        refine' ExS.ifF (TsS.to ?t2 ?tb) ExS.nil
        case t2 =>
          refine' tCmp (EvS.ifexp (v := decide ((j : Int) < 2)) (d := .int (if j < 2 then -1 else 1)) ?va ?vb ?vc) ?kb2 cmp_in ?kd2
          case va => k_all
          case vb =>
            intro h
            have h : (j : Int) < 2 := by simpa using h
            rw [if_pos (by omega)]
            ktd_rel
          case vc =>
            intro h
            have h : ¬ (j : Int) < 2 := by simpa using h
            rw [if_neg (by omega)]
            ktd_rel
          case kb2 => ktd_rel
          case kd2 => exact rfl
        case tb =>
          simp only [List.any_cons, List.any_nil, bj_in i31 hj, bj_in i21 hj, bj_in i24 hj, Bool.or_false]
      case sub => exact Sub3 rfl rfl rfl
    case rest =>
      rintro σe μe ⟨rfl, _, rfl⟩
      exact ExS.retW (by ktd_rel)
end
-- part P18
def ip (p : IP) : D := .tup [.int p.1, .int p.2]
def ct (c : List IP × Bool) : D := .tup [.tup (c.1.map ip), .bool c.2]
def ob : Option IBox → D
  | none => .none
  | some B => .tup [.int B.l, .int B.t, .int B.r, .int B.b]
def uip : D → IP
  | .tup [.int a, .int b] => (a, b)
  | _ => (0, 0)
theorem uip_ip (p : IP) : uip (ip p) = p := rfl
def fstsD (d : D) : List D := (d.nth 0).its
theorem spots_map (cs : List (List IP × Bool)) : ((cs.map ct).flatMap fun d => (fstsD d).map (idD d)) = (cs.flatMap (·.1)).map ip := by
  induction cs with
  | nil => rfl
  | cons c r ih =>
    rw [List.map_cons, List.flatMap_cons, ih, List.flatMap_cons, List.map_append]
    congr 1
    show (c.1.map ip).map (idD (ct c)) = c.1.map ip
    rw [List.map_map]; rfl
theorem map_nthI (ps : List IP) : (ps.map ip).map (D.nth 0) = (ps.map (·.1)).map .int ∧ (ps.map ip).map (D.nth 1) = (ps.map (·.2)).map .int := by
  constructor <;> · rw [List.map_map, List.map_map]; rfl
section
variable {w : World} {mean : ExcName → Option Value} {mg mb : Str → Option Value} {μ : Mu}
theorem box_of_spec (cs : List (List IP × Bool)) (o : Option IBox) (ho : IsO (cs.flatMap (·.1)) o) (hl : (cs.flatMap (·.1)).length ≤ 1000) : CallS (G w mean mg mb) 1 μ (.ref 133) [.lst (cs.map ct)] (ob o) μ := by
  refine' CallS.def_ (n := 0) (ex := []) (dex := []) (xs := [Str.ofString "contours"]) (σ' := []) (by k_mem) (by k_mem) ?h3 (fun _ => .nil) rfl (by decide) ?h4 ?h5 rfl rfl rfl
  case h3 => intro s vs X hl; match vs, hl with | [v0], _ => first | exact BindsTo.of_eq rfl | exact binds_K X rfl (by k_mem) rfl rfl rfl
  case h4 => decide
  case h5 =>
    refine' ExS.cons (xFlat (D.nth 0) (fstsD) (idD) ?hi7 ?hd7 ?hsz7 ?hx7 ?hy7 ?hn7 ?hyn7 ?hxy7 ?N7 ?hns7 ?hns27 ?hsm7 ?hs7 ?hs27 ?hz7 ?hsw7 ?h7) ?rest7
    case hi7 => ktd_rel
    case hd7 => exact rfl
    case hsz7 => rw [spots_map, List.length_map]; exact hl
    case hx7 => first | exact .inl rfl | exact .inr rfl
    case hy7 => first | exact .inl rfl | exact .inr rfl
    case hn7 => exact rfl
    case hyn7 => exact rfl
    case hxy7 => decide
    case N7 => exact CompNames.mk'
    case hns7 => first | exact .inl rfl | exact .inr rfl
    case hns27 => first | exact .inl rfl | exact .inr rfl
    case hsm7 => first | (intro a b h; cases h; done) | (intro a b h; cases h; omega)
    case hs7 => exact fun _ _ => rfl
    case hs27 => exact fun _ _ => rfl
    case hz7 => exact rfl
    case hsw7 => exact fun e h => by cases e; cases h; rfl
    case h7 =>
      intro d hd
      obtain ⟨c, hc, rfl⟩ := List.mem_map.mp hd
      refine' ⟨?ev, rfl, ?sm, ?el⟩
      case ev =>
        unfold ct
        ktd_rel
      case sm => intro a b h; cases h
      case el =>
        intro e he
        show EvS _ _ _ _ _ _ e _
        ktd_rel
    case rest7 =>
    rw [spots_map]
    generalize cs.flatMap (·.1) = ps at *
    cases o with
    | none =>
      have e : ps = [] := ho
      subst e
      refine' ExS.ifT (TsS.to (b := (List.map ip []).isEmpty) ?t1 rfl) (ExS.retW ?e1)
      case t1 => k_all
      case e1 => exact EvS.cnone
    | some B =>
      have hB : IsIB ps B := ho
      have e0 : ((ps.map ip).isEmpty) = false := by
        obtain ⟨p, hp, _⟩ := List.mem_map.mp hB.l
        cases ps with
        | nil => cases hp
        | cons a r => rfl
      refine' ExS.ifF (TsS.to ?t1 e0) ?r1
      case t1 => k_all
      case r1 =>
      refine' ExS.cons (xAssign2 (a := .lst ((ps.map (·.1)).map .int)) (b := .lst ((ps.map (·.2)).map .int)) ?ya ?yb ?yc ?yd ?ye) ?rest
      case ya =>
        refine' eTup (ds := [.lst ((ps.map (·.1)).map .int), .lst ((ps.map (·.2)).map .int)]) (lCons ?p1 (lCons ?p2 EvL.nil ?q2) ?q1) ?sz
        case p1 =>
          rw [← (map_nthI ps).1]
          refine' eMap (D.nth 0) ?hi1 ?hd1 ?hsz1 ?hx1 ?hn1 ?N1 ?hns1 ?hsm1 ?hs1 ?h1
          case hi1 => ktd_rel
          case hd1 => exact rfl
          case hsz1 => simpa using hl
          case hx1 => first | exact .inl rfl | exact .inr rfl
          case hn1 => exact rfl
          case N1 => exact CompNames.mk'
          case hns1 => first | exact .inl rfl | exact .inr rfl
          case hsm1 => first | (intro a b h; cases h; done) | (intro a b h; cases h; omega)
          case hs1 => exact fun _ _ => rfl
          case h1 =>
            intro d hd
            obtain ⟨p, hp, rfl⟩ := List.mem_map.mp hd
            unfold ip
            ktd_rel
        case p2 =>
          rw [← (map_nthI ps).2]
          refine' eMap (D.nth 1) ?hi2 ?hd2 ?hsz2 ?hx2 ?hn2 ?N2 ?hns2 ?hsm2 ?hs2 ?h2
          case hi2 => ktd_rel
          case hd2 => exact rfl
          case hsz2 => simpa using hl
          case hx2 => first | exact .inl rfl | exact .inr rfl
          case hn2 => exact rfl
          case N2 => exact CompNames.mk'
          case hns2 => first | exact .inl rfl | exact .inr rfl
          case hsm2 => first | (intro a b h; cases h; done) | (intro a b h; cases h; omega)
          case hs2 => exact fun _ _ => rfl
          case h2 =>
            intro d hd
            obtain ⟨p, hp, rfl⟩ := List.mem_map.mp hd
            unfold ip
            ktd_rel
        case q2 => exact fun _ => rfl
        case q1 => exact fun _ => rfl
        case sz => exact Nat.le_of_ble_eq_true rfl
      case yb => exact rfl
      case yc => exact rfl
      case yd => exact fun _ _ => rfl
      case ye => exact fun e h => by cases e; cases h; rfl
      case rest =>
        have c1 : CallS (G w mean mg mb) 0 μ (.builtin "min") [.lst ((ps.map (·.1)).map .int)] (.int B.l) μ := call_minL hB.l (fun x hx => by obtain ⟨p, hp, rfl⟩ := List.mem_map.mp hx; exact (hB.all p hp).1)
        have c2 : CallS (G w mean mg mb) 0 μ (.builtin "min") [.lst ((ps.map (·.2)).map .int)] (.int B.t) μ := call_minL hB.t (fun x hx => by obtain ⟨p, hp, rfl⟩ := List.mem_map.mp hx; exact (hB.all p hp).2.1)
        have c3 : CallS (G w mean mg mb) 0 μ (.builtin "max") [.lst ((ps.map (·.1)).map .int)] (.int B.r) μ := call_maxL hB.r (fun x hx => by obtain ⟨p, hp, rfl⟩ := List.mem_map.mp hx; exact (hB.all p hp).2.2.1)
        have c4 : CallS (G w mean mg mb) 0 μ (.builtin "max") [.lst ((ps.map (·.2)).map .int)] (.int B.b) μ := call_maxL hB.b (fun x hx => by obtain ⟨p, hp, rfl⟩ := List.mem_map.mp hx; exact (hB.all p hp).2.2.2)
        refine ExS.retW ?_
        unfold ob
        ktd_rel
theorem joined_spec (a b : Option IBox) : CallS (G w mean mg mb) 1 μ (.ref 140) [ob a, ob b] (ob (joinO a b)) μ := by
  refine' CallS.def_ (n := 0) (ex := []) (dex := []) (xs := [Str.ofString "one", Str.ofString "other"]) (σ' := []) (by k_mem) (by k_mem) ?h3 (fun _ => .nil) rfl (by decide) ?h4 ?h5 rfl rfl rfl
  case h3 => intro s vs X hl; match vs, hl with | [v0, v1], _ => first | exact BindsTo.of_eq rfl | exact binds_K X rfl (by k_mem) rfl rfl rfl
  case h4 => decide
  case h5 =>
    cases a with
    | none =>
      refine' ExS.ifT (TsS.to (b := D.isNone (ob none) || D.isNone (ob b)) ?t1 rfl) (ExS.retW (eIfT (TsS.to (b := D.isNone (ob none)) ?t2 rfl) ?e1))
      case t1 => k_all
      case t2 => k_all
      case e1 => ktd_rel
    | some A =>
      cases b with
      | none =>
        refine' ExS.ifT (TsS.to (b := D.isNone (ob (some A)) || D.isNone (ob none)) ?t1 rfl) (ExS.retW (eIfF (TsS.to (b := D.isNone (ob (some A))) ?t2 rfl) ?e1))
        case t1 => k_all
        case t2 => k_all
        case e1 => ktd_rel
      | some B =>
        refine' ExS.ifF (TsS.to (b := D.isNone (ob (some A)) || D.isNone (ob (some B))) ?t1 rfl) ?r1
        case t1 => k_all
        case r1 =>
        refine ExS.retW ?_
        unfold joinO joinB ob
        ktd_rel
theorem common_spec (A B : IBox) : CallS (G w mean mg mb) 1 μ (.ref 147) [ob (some A), ob (some B)] (ob (commonO A B)) μ := by
  unfold ob
  refine' CallS.def_ (n := 0) (ex := []) (dex := []) (xs := [Str.ofString "one", Str.ofString "other"]) (σ' := []) (by k_mem) (by k_mem) ?h3 (fun _ => .nil) rfl (by decide) ?h4 ?h5 rfl rfl rfl
  case h3 => intro s vs X hl; match vs, hl with | [v0, v1], _ => first | exact BindsTo.of_eq rfl | exact binds_K X rfl (by k_mem) rfl rfl rfl
  case h4 => decide
  case h5 =>
    k_updF
    k_updF
    unfold commonO
    by_cases h1 : max A.l B.l ≤ min A.r B.r
    · by_cases h2 : max A.t B.t ≤ min A.b B.b
      · rw [if_pos ⟨h1, h2⟩]
        refine' ExS.retW (eIfT (TsS.to ?t1 (show (decide (max A.l B.l ≤ min A.r B.r) && decide (max A.t B.t ≤ min A.b B.b)) = true by rw [boolT h1, boolT h2]; rfl)) ?e1)
        case t1 => k_all
        case e1 =>
          show EvS _ _ _ _ _ _ (.tup [.int (max A.l B.l), .int (max A.t B.t), .int (min A.r B.r), .int (min A.b B.b)]) _
          ktd_rel
      · rw [if_neg fun h => h2 h.2]
        refine' ExS.retW (eIfF (TsS.to ?t1 (show (decide (max A.l B.l ≤ min A.r B.r) && decide (max A.t B.t ≤ min A.b B.b)) = false by rw [boolF h2]; simp)) ?e1)
        case t1 => k_all
        case e1 => exact EvS.cnone
    · rw [if_neg fun h => h1 h.1]
      refine' ExS.retW (eIfF (TsS.to ?t1 (show (decide (max A.l B.l ≤ min A.r B.r) && decide (max A.t B.t ≤ min A.b B.b)) = false by rw [boolF h1]; rfl)) ?e1)
      case t1 => k_all
      case e1 => exact EvS.cnone
theorem grown_spec (A : IBox) (many : Int) : CallS (G w mean mg mb) 1 μ (.ref 154) [ob (some A), .int many] (.tup [.int (A.l - many), .int (A.t - many), .int (A.r + many), .int (A.b + many)]) μ := by
  unfold ob
  refine' CallS.def_ (n := 0) (ex := []) (dex := []) (xs := [Str.ofString "box", Str.ofString "many"]) (σ' := []) (by k_mem) (by k_mem) ?h3 (fun _ => .nil) rfl (by decide) ?h4 ?h5 rfl rfl rfl
  case h3 => intro s vs X hl; match vs, hl with | [v0, v1], _ => first | exact BindsTo.of_eq rfl | exact binds_K X rfl (by k_mem) rfl rfl rfl
  case h4 => decide
  case h5 =>
    refine ExS.retW ?_
    ktd_rel
theorem is_in_spec (p : IP) (B : IBox) : CallS (G w mean mg mb) 1 μ (.ref 211) [ip p, ob (some B)] (.bool (inB p B)) μ := by
  unfold ip ob inB
  refine' CallS.def_ (n := 0) (ex := []) (dex := []) (xs := [Str.ofString "pair", Str.ofString "box"]) (σ' := []) (by k_mem) (by k_mem) ?h3 (fun _ => .nil) rfl (by decide) ?h4 ?h5 rfl rfl rfl
  case h3 => intro s vs X hl; match vs, hl with | [v0, v1], _ => first | exact BindsTo.of_eq rfl | exact binds_K X rfl (by k_mem) rfl rfl rfl
  case h4 => decide
  case h5 =>
    refine ExS.retW ?_
    ktd_rel
theorem corners_spec (o : Option IBox) : CallS (G w mean mg mb) 1 μ (.ref 223) [ob o] (.lst ((corners o).map ip)) μ := by
  refine' CallS.def_ (n := 0) (ex := []) (dex := []) (xs := [Str.ofString "box"]) (σ' := []) (by k_mem) (by k_mem) ?h3 (fun _ => .nil) rfl (by decide) ?h4 ?h5 rfl rfl rfl
  case h3 => intro s vs X hl; match vs, hl with | [v0], _ => first | exact BindsTo.of_eq rfl | exact binds_K X rfl (by k_mem) rfl rfl rfl
  case h4 => decide
  case h5 =>
    cases o with
    | none =>
      refine' ExS.retW (eIfT (TsS.to (b := D.isNone (ob none)) ?t1 rfl) ?e1)
      case t1 => k_all
      case e1 =>
        show EvS _ _ _ _ _ _ (.lst []) _
        ktd_rel
    | some B =>
      refine' ExS.retW (eIfF (TsS.to (b := D.isNone (ob (some B))) ?t1 rfl) ?e1)
      case t1 => k_all
      case e1 =>
        show EvS _ _ _ _ _ _ (.lst [.tup [.int B.l, .int B.t], .tup [.int B.r, .int B.b]]) _
        unfold ob
        ktd_rel
end
-- part P19
theorem rng_at {a : Int} {m : Nat} {done rest : List D} {d : D} (h : done ++ d :: rest = rngItems a m) : d = .int (a + done.length) ∧ done.length < m := by
  have h1 : (done ++ d :: rest)[done.length]? = some d := by simp
  rw [h] at h1
  have h2 := (List.getElem?_eq_some_iff.mp h1).1
  have h3 : done.length < m := by simpa [rngItems] using h2
  refine ⟨?_, h3⟩
  unfold rngItems at h1
  rw [List.getElem?_map, List.getElem?_range h3] at h1
  exact (Option.some.inj h1).symm
theorem near_of {ps : List IP} (h : ∀ p ∈ ps, Near p) (k : Nat) : Near (ps.getD k (0, 0)) := by
  rw [List.getD_eq_getElem?_getD]
  by_cases hk : k < ps.length
  · rw [List.getElem?_eq_getElem hk]; exact h _ (List.getElem_mem _)
  · rw [List.getElem?_eq_none (by omega)]; exact ⟨by decide, by decide, by decide, by decide⟩
theorem near_mul {a b : Int} (h1 : -8 ≤ a ∧ a ≤ 8) : IntMulOk a b := mulS (by omega)
theorem pick_cur {ps : List IP} {k : Nat} (h : k < ps.length) : pick (k : Int) (ps.map ip) = some (ip (curI ps k)) := by
  refine pick_nat ?_
  unfold curI
  rw [List.getElem?_map, List.getD_eq_getElem?_getD, List.getElem?_eq_getElem h]; rfl
theorem pick_prev {ps : List IP} {k : Nat} (h : k < ps.length) : pick ((k : Int) - 1) (ps.map ip) = some (ip (prevI ps k)) := by
  unfold prevI
  by_cases hk : k = 0
  · subst hk
    obtain ⟨l, a, rfl⟩ := lst_cons ps (by omega)
    rw [if_pos rfl, List.map_append]
    have e : (l ++ [a]).getD ((l ++ [a]).length - 1) (0, 0) = a := by simp
    rw [e]
    exact pick_last
  · rw [if_neg hk]
    have e : (k : Int) - 1 = ((k - 1 : Nat) : Int) := by omega
    rw [e]
    exact pick_cur (by omega)
section
variable {w : World} {mean : ExcName → Option Value} {mg mb : Str → Option Value} {μ : Mu}
theorem area_twice_spec (c : List IP × Bool) (hn : ∀ p ∈ c.1, Near p) (hl : c.1.length ≤ 3) : CallS (G w mean mg mb) 1 μ (.ref 161) [ct c] (.int (crossSum c.1 c.1.length)) μ := by
  obtain ⟨ps, b⟩ := c
  simp only at hn hl ⊢
  refine' CallS.def_ (n := 0) (ex := []) (dex := []) (xs := [Str.ofString "contour"]) (σ' := []) (by k_mem) (by k_mem) ?h3 (fun _ => .nil) rfl (by decide) ?h4 ?h5 rfl rfl rfl
  case h3 => intro s vs X hl; match vs, hl with | [v0], _ => first | exact BindsTo.of_eq rfl | exact binds_K X rfl (by k_mem) rfl rfl rfl
  case h4 => decide
  case h5 =>
    unfold ct
    k_updF
    k_updF
    have hlen : (ps.map ip).length ≤ 1000 := by simp; omega
    have hcl := call_lenT (g := G w mean mg mb) (n := 0) (μ := μ) hlen
    rw [List.length_map] at hcl
    have hr : CallS (G w mean mg mb) 0 μ (.type "range") [.int ps.length] (.rng 0 ps.length) μ := call_range1
    refine' xFor (fun done rest σ ν => ν = μ ∧ done ++ rest = rngItems 0 ps.length ∧ σ = [((Str.ofString "spots"), .tup (ps.map ip)), ((Str.ofString "total"), .int (crossSum ps done.length))]) [((Str.ofString "spots"), .tup (ps.map ip)), ((Str.ofString "total"), .int 0)] ?hi ?hd ?hsm ?hs ?hw ?h0 ?step ?rest
    case hi => ktd_rel
    case hd => exact rfl
    case hsm => intro a b h; cases h; omega
    case hs => exact fun _ _ => rfl
    case hw => exact Sub2 rfl rfl
    case h0 => exact ⟨rfl, rfl, rfl⟩
    case step =>
      rintro done d rest σ ν ⟨rfl, hdr, rfl⟩
      obtain ⟨rfl, hk⟩ := rng_at hdr
      have n1 := near_of hn done.length
      have n2 := near_of hn (if done.length = 0 then ps.length - 1 else done.length - 1)
      unfold Near at n1 n2
      have m1 : IntMulOk (prevI ps done.length).1 (curI ps done.length).2 := near_mul (by unfold prevI; omega)
      have m2 : IntMulOk (prevI ps done.length).2 (curI ps done.length).1 := near_mul (by unfold prevI; omega)
      have q1 : pick ((done.length : Int) - 1) (ps.map ip) = some (.tup [.int (prevI ps done.length).1, .int (prevI ps done.length).2]) := pick_prev hk
      have q2 : pick (done.length : Int) (ps.map ip) = some (.tup [.int (curI ps done.length).1, .int (curI ps done.length).2]) := pick_cur hk
      rw [Int.zero_add]
      refine' fStep [((Str.ofString "spots"), .tup (ps.map ip)), ((Str.ofString "total"), .int (crossSum ps (done ++ [D.int done.length]).length))] (AsS.name (.inl rfl)) ?body ?sub ⟨rfl, ?eq, rfl⟩
      case body =>
        k_updF
        k_updF
        exact ExS.nil
      case sub =>
        rw [List.length_append]
        exact Sub2 rfl rfl
      case eq => rw [List.append_assoc]; simpa using hdr
    case rest =>
      rintro σe μe ⟨rfl, _, rfl⟩
      have e : (rngItems 0 ps.length).length = ps.length := by simp [rngItems]
      rw [e]
      exact ExS.retW (by ktd_rel)
theorem law_area_spec (ps : List IP) (hn : ∀ p ∈ ps, Near p) (hl : ps.length ≤ 3) : CallS (G w mean mg mb) 1 μ (.ref 262) [.tup (ps.map ip)] (.int (fan ps (ps.length - 2))) μ := by
  refine' CallS.def_ (n := 0) (ex := []) (dex := []) (xs := [Str.ofString "spots"]) (σ' := []) (by k_mem) (by k_mem) ?h3 (fun _ => .nil) rfl (by decide) ?h4 ?h5 rfl rfl rfl
  case h3 => intro s vs X hl; match vs, hl with | [v0], _ => first | exact BindsTo.of_eq rfl | exact binds_K X rfl (by k_mem) rfl rfl rfl
  case h4 => decide
  case h5 =>
    k_updF
    have hlen : (ps.map ip).length ≤ 1000 := by simp; omega
    have hcl := call_lenT (g := G w mean mg mb) (n := 0) (μ := μ) hlen
    rw [List.length_map] at hcl
    have hr : CallS (G w mean mg mb) 0 μ (.type "range") [.int 1, .int ((ps.length : Int) - 1)] (.rng 1 (ps.length - 2)) μ := by
      by_cases h2 : 2 ≤ ps.length
      · exact call_range2 (by omega)
      · have e : ps.length - 2 = 0 := by omega
        rw [e]
        exact call_range2E (by omega) (by omega)
    refine' xFor (fun done rest σ ν => ν = μ ∧ done ++ rest = rngItems 1 (ps.length - 2) ∧ σ = [((Str.ofString "spots"), .tup (ps.map ip)), ((Str.ofString "total"), .int (fan ps done.length))]) [((Str.ofString "spots"), .tup (ps.map ip)), ((Str.ofString "total"), .int 0)] ?hi ?hd ?hsm ?hs ?hw ?h0 ?step ?rest
    case hi => ktd_rel
    case hd => exact rfl
    case hsm => intro a b h; cases h; omega
    case hs => exact fun _ _ => rfl
    case hw => exact Sub2 rfl rfl
    case h0 => exact ⟨rfl, rfl, rfl⟩
    case step =>
      rintro done d rest σ ν ⟨rfl, hdr, rfl⟩
      obtain ⟨rfl, hk⟩ := rng_at hdr
      have n0 := near_of hn 0
      have n1 := near_of hn (done.length + 1)
      unfold Near at n0 n1
      have m1 : IntMulOk ((curI ps (done.length + 1)).1 - (curI ps 0).1) ((curI ps (done.length + 2)).2 - (curI ps 0).2) := near_mul (by unfold curI; omega)
      have m2 : IntMulOk ((curI ps (done.length + 1)).2 - (curI ps 0).2) ((curI ps (done.length + 2)).1 - (curI ps 0).1) := near_mul (by unfold curI; omega)
      have q0 : pick 0 (ps.map ip) = some (.tup [.int (curI ps 0).1, .int (curI ps 0).2]) := pick_cur (k := 0) (by omega)
      have q1 : pick (1 + (done.length : Int)) (ps.map ip) = some (.tup [.int (curI ps (done.length + 1)).1, .int (curI ps (done.length + 1)).2]) := by
        rw [Int.add_comm]; exact pick_cur (k := done.length + 1) (by omega)
      have q2 : pick (1 + (done.length : Int) + 1) (ps.map ip) = some (.tup [.int (curI ps (done.length + 2)).1, .int (curI ps (done.length + 2)).2]) := by
        have e : (1 : Int) + done.length + 1 = ((done.length + 2 : Nat) : Int) := by omega
        rw [e]; exact pick_cur (k := done.length + 2) (by omega)
      refine' fStep [((Str.ofString "spots"), .tup (ps.map ip)), ((Str.ofString "total"), .int (fan ps (done ++ [D.int (1 + done.length)]).length))] (AsS.name (.inl rfl)) ?body ?sub ⟨rfl, ?eq, rfl⟩
      case body =>
        k_updF
        k_updF
        exact ExS.nil
      case sub =>
        rw [List.length_append]
        exact Sub2 rfl rfl
      case eq => rw [List.append_assoc]; simpa using hdr
    case rest =>
      rintro σe μe ⟨rfl, _, rfl⟩
      have e : (rngItems 1 (ps.length - 2)).length = ps.length - 2 := by simp [rngItems]
      rw [e]
      exact ExS.retW (by ktd_rel)
end
-- part P20
def cI (j : Nat) (p : IP) : Int := if j % 2 = 0 then p.1 else p.2
def bI (B : IBox) (j : Nat) : Int := if j = 0 then B.l else if j = 1 then B.t else if j = 2 then B.r else B.b
theorem pick_cI {j : Nat} (h : j < 4) (p : IP) : pick ((j : Int).fmod 2) [.int p.1, .int p.2] = some (.int (cI j p)) := by
  have : j = 0 ∨ j = 1 ∨ j = 2 ∨ j = 3 := by omega
  rcases this with rfl | rfl | rfl | rfl <;> rfl
theorem pick_bI {j : Nat} (h : j < 4) (B : IBox) : pick (j : Int) [.int B.l, .int B.t, .int B.r, .int B.b] = some (.int (bI B j)) := by
  have : j = 0 ∨ j = 1 ∨ j = 2 ∨ j = 3 := by omega
  rcases this with rfl | rfl | rfl | rfl <;> rfl
def cID (j : Nat) (d : D) : D := .int (cI j (uip d))
theorem cID_map (j : Nat) (ps : List IP) : (ps.map ip).map (cID j) = (ps.map (cI j)).map .int := by
  rw [List.map_map, List.map_map]; rfl
theorem bI_in {B : IBox} {ps : List IP} (hB : IsIB ps B) {j : Nat} (h : j < 4) : ((ps.map (cI j)).any (· == bI B j)) = true := by
  have key : ∃ p ∈ ps, cI j p = bI B j := by
    have hj : j = 0 ∨ j = 1 ∨ j = 2 ∨ j = 3 := by omega
    rcases hj with rfl | rfl | rfl | rfl
    · obtain ⟨p, hp, e⟩ := List.mem_map.mp hB.l; exact ⟨p, hp, e⟩
    · obtain ⟨p, hp, e⟩ := List.mem_map.mp hB.t; exact ⟨p, hp, e⟩
    · obtain ⟨p, hp, e⟩ := List.mem_map.mp hB.r; exact ⟨p, hp, e⟩
    · obtain ⟨p, hp, e⟩ := List.mem_map.mp hB.b; exact ⟨p, hp, e⟩
  obtain ⟨p, hp, e⟩ := key
  rw [List.any_eq_true]
  exact ⟨_, List.mem_map.mpr ⟨p, hp, rfl⟩, by rw [e]; simp⟩
theorem inB_all {B : IBox} {ps : List IP} (hB : IsIB ps B) : ((ps.map ip).filter fun d => !(inB (uip d) B)) = [] := by
  rw [List.filter_eq_nil_iff]
  intro d hd
  obtain ⟨p, hp, rfl⟩ := List.mem_map.mp hd
  have h : inB p B = true := by
    rw [inB_iff]
    have := hB.all p hp
    omega
  rw [uip_ip, h]
  decide
section
variable {w : World} {mean : ExcName → Option Value} {mg mb : Str → Option Value} {μ : Mu}
theorem box_right_spec (o : Option IBox) (ps : List IP) (ho : IsO ps o) (hl : ps.length ≤ 1000) : CallS (G w mean mg mb) 2 μ (.ref 216) [ob o, .lst (ps.map ip)] (.bool true) μ := by
  refine' CallS.def_ (n := 1) (ex := []) (dex := []) (xs := [Str.ofString "box", Str.ofString "spots"]) (σ' := []) (by k_mem) (by k_mem) ?h3 (fun _ => .nil) rfl (by decide) ?h4 ?h5 rfl rfl rfl
  case h3 => intro s vs X hl; match vs, hl with | [v0, v1], _ => first | exact BindsTo.of_eq rfl | exact binds_K X rfl (by k_mem) rfl rfl rfl
  case h4 => decide
  case h5 =>
    cases o with
    | none =>
      have e : ps = [] := ho
      subst e
      refine' ExS.ifT (TsS.to (b := (List.map ip []).isEmpty) ?t1 rfl) (ExS.retW (EvS.to (d := .bool (D.isNone (ob none))) ?e1 rfl))
      case t1 => k_all
      case e1 => ktd_rel
    | some B =>
      have hB : IsIB ps B := ho
      have e0 : ((ps.map ip).isEmpty) = false := by
        obtain ⟨p, hp, _⟩ := List.mem_map.mp hB.l
        cases ps with
        | nil => cases hp
        | cons a r => rfl
      refine' ExS.ifF (TsS.to ?t1 e0) ?r1
      case t1 => k_all
      case r1 =>
      refine' ExS.ifF (TsS.to (b := D.isNone (ob (some B)) || false) (tOr ?o1 (tCmp (EvS.to (d := .lst (((ps.map ip).filter fun d => !(inB (uip d) B)).map fun d => d)) ?l3 (by rw [inB_all hB]; rfl)) ?l2 cmp_neNil rfl)) rfl) ?r2
      case o1 => k_all
      case l2 => ktd_rel
      case l3 =>
        refine' eFilter (fun d => !(inB (uip d) B)) (fun d => d) ?hi3 ?hd3 ?hsz3 ?hx3 ?hn3 ?N3 ?hns3 ?hsm3 ?hs3 ?ht3 ?h3
        case hi3 => ktd_rel
        case hd3 => exact rfl
        case hsz3 => simpa using hl
        case hx3 => first | exact .inl rfl | exact .inr rfl
        case hn3 => exact rfl
        case N3 => exact CompNames.mk'
        case hns3 => first | exact .inl rfl | exact .inr rfl
        case hsm3 => first | (intro a b h; cases h; done) | (intro a b h; cases h; omega)
        case hs3 => exact fun _ _ => rfl
        case ht3 =>
          intro d hd
          obtain ⟨p, hp, rfl⟩ := List.mem_map.mp hd
          have hc := is_in_spec (w := w) (mean := mean) (mg := mg) (mb := mb) (μ := μ) p B
          have e : uip (ip p) = p := rfl
          rw [e]
          k_all
        case h3 =>
          intro d hd
          ktd_rel
      case r2 =>
      refine' ExS.retW (EvS.to (d := .bool (List.isEmpty ([] : List D))) (eCmp (EvS.to (d := .lst (((rngItems 0 4).filter fun _ => false).map fun d => d)) ?m1 rfl) ?m2 cmp_eqNil rfl) rfl)
      case m2 => ktd_rel
      case m1 =>
        have hr : CallS (G w mean mg mb) 1 μ (.type "range") [.int 4] (.rng 0 4) μ := call_range1 (m := 4)
        refine' eFilter (d := .rng 0 4) (fun _ => false) (fun d => d) ?hi4 ?hd4 ?hsz4 ?hx4 ?hn4 ?N4 ?hns4 ?hsm4 ?hs4 ?ht4 ?h4
        case hi4 => ktd_rel
        case hd4 => exact rfl
        case hsz4 => exact Nat.le_of_ble_eq_true rfl
        case hx4 => first | exact .inl rfl | exact .inr rfl
        case hn4 => exact rfl
        case N4 => exact CompNames.mk'
        case hns4 => first | exact .inl rfl | exact .inr rfl
        case hsm4 => intro a b h; cases h; omega
        case hs4 => exact fun _ _ => rfl
        case ht4 =>
          intro d hd
          obtain ⟨j, hj, rfl⟩ := mem_rng hd
          have q2 := pick_bI hj B
          have hb := fmod2 j
          refine' TsS.to (b := !((ps.map (cI j)).any (· == bI B j))) (tCmp ?ka ?kb cmp_notin ?kd) (by rw [bI_in hB hj]; rfl)
          case ka =>
            unfold ob
            ktd_rel
          case kb =>
            rw [← cID_map]
            refine' eMap (cID j) ?hi5 ?hd5 ?hsz5 ?hx5 ?hn5 ?N5 ?hns5 ?hsm5 ?hs5 ?h5
            case hi5 => ktd_rel
            case hd5 => exact rfl
            case hsz5 => simpa using hl
            case hx5 => first | exact .inl rfl | exact .inr rfl
            case hn5 => exact rfl
            case N5 => exact CompNames.mk'
            case hns5 => first | exact .inl rfl | exact .inr rfl
            case hsm5 => first | (intro a b h; cases h; done) | (intro a b h; cases h; omega)
            case hs5 => exact fun _ _ => rfl
            case h5 =>
              intro d hd
              obtain ⟨p, hp, rfl⟩ := List.mem_map.mp hd
              have q1 := pick_cI hj p
              have h2 : (2 : Int) ≠ 0 := by decide
              have e : cID j (ip p) = .int (cI j p) := rfl
              rw [e]
              unfold ip
              ktd_rel
          case kd => exact rfl
        case h4 =>
          intro d hd
          ktd_rel
end
-- part P21
theorem rng_line : rngItems (-4) 9 = line.map .int := rfl
theorem grid_map : ((rngItems (-4) 9).flatMap fun d => (rngItems (-4) 9).map fun e => D.tup [d, e]) = grid.map ip := by
  rw [rng_line]; rfl
theorem grid_len : grid.length = 81 := by decide
theorem grid_filter (A B : IBox) : ((grid.map ip).filter fun d => inB (uip d) A && inB (uip d) B).map (fun d => d) = (grid.filter fun p => inB p A && inB p B).map ip := by
  rw [List.filter_map, List.map_map]; rfl
section
variable {w : World} {mean : ExcName → Option Value} {mg mb : Str → Option Value} {μ : Mu}
theorem two_right_spec (a : Addr) (hS : Src μ a) (ps qs : List IP) (o1 o2 : Option IBox) (h1 : IsO ps o1) (h2 : IsO qs o2) (n1 : ∀ p ∈ ps, Near p) (n2 : ∀ p ∈ qs, Near p) : CallE (G w mean mg mb) 3 μ (.ref 228) [.mref a, ob o1, ob o2] fun d μ' => d = .bool true ∧ Stp μ a μ' := by
  refine' CallE.def_ (n := 2) (xs := [Str.ofString "source", Str.ofString "one", Str.ofString "other"]) (by k_mem) (by k_mem) ?h3 rfl (by decide) ?h4 ?h5 rfl rfl rfl
  case h3 => intro s vs X hl; match vs, hl with | [v0, v1, v2], _ => first | exact BindsTo.of_eq rfl | exact binds_K X rfl (by k_mem) rfl rfl rfl
  case h4 => decide
  case h5 =>
    have k1 := box_right_spec (w := w) (mean := mean) (mg := mg) (mb := mb) (μ := μ) (joinO o1 o2) (corners o1 ++ corners o2) (join_right h1 h2) (by cases o1 <;> cases o2 <;> simp [corners])
    rw [List.map_append] at k1
    have kj := (joined_spec (w := w) (mean := mean) (mg := mg) (mb := mb) (μ := μ) o1 o2).more (m := 2) (by decide)
    have ka := (corners_spec (w := w) (mean := mean) (mg := mg) (mb := mb) (μ := μ) o1).more (m := 2) (by decide)
    have kb := (corners_spec (w := w) (mean := mean) (mg := mg) (mb := mb) (μ := μ) o2).more (m := 2) (by decide)
    refine' ExE.ifF (TsS.to (b := !true) (tNot (tCall ?g1)) rfl) ?r1
    case g1 =>
      refine' eCall ?x1 rfl (lCons ?x5 (lCons (EvS.cat ?x6 ?x9 ?x10) EvL.nil ?x7) ?x8) k1 ?x2 ?x3 ?x4
      case x1 => k_mem
      case x2 => decide
      case x3 => exact fun _ => rfl
      case x4 => exact fun _ => rfl
      case x7 => exact fun _ => rfl
      case x8 => exact fun _ => rfl
      case x5 => ktd_rel
      case x6 => ktd_rel
      case x9 => ktd_rel
      case x10 => cases o1 <;> cases o2 <;> simp [corners]
    case r1 =>
    cases o1 with
    | none =>
      refine' ExE.ofS (d := .bool true) (ExS.ifT (TsS.to (b := D.isNone (ob none) || D.isNone (ob o2)) ?t1 rfl) (ExS.retW ?e1)) ⟨rfl, Stp.refl hS⟩
      case t1 => k_all
      case e1 => ktd_rel
    | some A =>
      cases o2 with
      | none =>
        refine' ExE.ofS (d := .bool true) (ExS.ifT (TsS.to (b := D.isNone (ob (some A)) || D.isNone (ob none)) ?t1 rfl) (ExS.retW ?e1)) ⟨rfl, Stp.refl hS⟩
        case t1 => k_all
        case e1 => ktd_rel
      | some B =>
        have hA : IsIB ps A := h1
        have hB : IsIB qs B := h2
        clear k1 kj ka kb
        refine' ExE.ifF (TsS.to (b := D.isNone (ob (some A)) || D.isNone (ob (some B))) ?t1 rfl) ?r2
        case t1 => k_all
        case r2 =>
        have kc := (common_spec (w := w) (mean := mean) (mg := mg) (mb := mb) (μ := μ) A B).more (m := 2) (by decide)
        refine' ExE.cons (xAssign (d := ob (commonO A B)) ?b1 ?b2 ?b3) ?r3
        case b1 => ktd_rel
        case b2 => exact .inl rfl
        case b3 => exact fun _ _ => rfl
        case r3 =>
        have hr : CallS (G w mean mg mb) 2 μ (.type "range") [.int (-4), .int 5] (.rng (-4) 9) μ := call_range2 (by decide)
        refine' ExE.cons (xFlat (fun _ => .rng (-4) 9) (fun _ => rngItems (-4) 9) (fun d e => .tup [d, e]) ?hi4 ?hd4 ?hsz4 ?hx4 ?hy4 ?hn4 ?hyn4 ?hxy4 ?N4 ?hns4 ?hns24 ?hsm4 ?hs4 ?hs24 ?hz4 ?hsw4 ?h4) ?rest4
        case hi4 => ktd_rel
        case hd4 => exact rfl
        case hsz4 => rw [grid_map, List.length_map, grid_len]; decide
        case hx4 => first | exact .inl rfl | exact .inr rfl
        case hy4 => first | exact .inl rfl | exact .inr rfl
        case hn4 => exact rfl
        case hyn4 => exact rfl
        case hxy4 => decide
        case N4 => exact CompNames.mk'
        case hns4 => first | exact .inl rfl | exact .inr rfl
        case hns24 => first | exact .inl rfl | exact .inr rfl
        case hsm4 => first | (intro a b h; cases h; done) | (intro a b h; cases h; omega)
        case hs4 => exact fun _ _ => rfl
        case hs24 => exact fun _ _ => rfl
        case hz4 => exact rfl
        case hsw4 => exact fun e h => by cases e; cases h; rfl
        case h4 =>
          intro d hd
          refine' ⟨?ev, rfl, ?sm, ?el⟩
          case ev => ktd_rel
          case sm => intro a b h; cases h; omega
          case el =>
            intro e he
            show EvS _ _ _ _ _ _ (.tup [d, e]) _
            ktd_rel
        case rest4 =>
        rw [grid_map]
        refine' ExE.cons (xFilter (fun d => inB (uip d) A && inB (uip d) B) (fun d => d) ?hi6 ?hd6 ?hsz6 ?hx6 ?hn6 ?N6 ?hns6 ?hsm6 ?hs6 ?hy6 ?hsw6 ?ht6 ?h6) ?rest6
        case hi6 => ktd_rel
        case hd6 => exact rfl
        case hsz6 => rw [List.length_map, grid_len]; decide
        case hx6 => first | exact .inl rfl | exact .inr rfl
        case hn6 => exact rfl
        case N6 => exact CompNames.mk'
        case hns6 => first | exact .inl rfl | exact .inr rfl
        case hsm6 => first | (intro a b h; cases h; done) | (intro a b h; cases h; omega)
        case hs6 => exact fun _ _ => rfl
        case hy6 => exact rfl
        case hsw6 => exact fun e h => by cases e; cases h; rfl
        case ht6 =>
          intro d hd
          obtain ⟨p, hp, rfl⟩ := List.mem_map.mp hd
          have ca := (is_in_spec (w := w) (mean := mean) (mg := mg) (mb := mb) (μ := μ) p A).more (m := 2) (by decide)
          have cb := (is_in_spec (w := w) (mean := mean) (mg := mg) (mb := mb) (μ := μ) p B).more (m := 2) (by decide)
          have e : uip (ip p) = p := rfl
          rw [e]
          k_all
        case h6 =>
          intro d hd
          ktd_rel
        case rest6 =>
        rw [grid_filter]
        have k2 := box_right_spec (w := w) (mean := mean) (mg := mg) (mb := mb) (μ := μ) (commonO A B) (grid.filter fun p => inB p A && inB p B) (common_right hA hB n1 n2) (Nat.le_trans (List.length_filter_le ..) (by rw [grid_len]; decide))
        refine' ExE.ifF (TsS.to (b := !true) ?g2 rfl) ?r4
        case g2 => k_all
        case r4 =>
        refine' ExE.asg (fun d ν => ∃ fig : Nat, d = .int fig ∧ Stp μ a ν) ?m1 ?m2 ?m3 ?m4
        case m1 => exact .inl rfl
        case m2 => exact fun _ _ => rfl
        case m3 =>
          refine' EvE.call ?v1 rfl ?v2 ((take_e a hS 4 (by decide) (by decide)).mono ?v3 |>.more (by decide)) ?v4 ?v5 ?v6
          case v1 => k_mem
          case v2 =>
            show EvL _ _ _ _ _ _ _ [.mref a, .int 4] _
            ktd_rel
          case v3 =>
            rintro d μ' ⟨fig, h1, rfl, h2⟩
            exact ⟨fig, rfl, h2⟩
          case v4 => decide
          case v5 => exact fun _ => rfl
          case v6 => exact fun _ => rfl
        case m4 =>
        rintro d ν ⟨fig, rfl, hst⟩
        have kg := (grown_spec (w := w) (mean := mean) (mg := mg) (mb := mb) (μ := ν) A fig).more (m := 2) (by decide)
        refine' ExE.ofS (d := .bool true) (ExS.retW (EvS.to (eCmp (a := .tup [.int (A.l - fig), .int (A.t - fig), .int (A.r + fig), .int (A.b + fig)]) (b := .tup [.int (A.l - fig), .int (A.t - fig), .int (A.r + fig), .int (A.b + fig)]) ?q1 ?q2 (cmp_eqSame (k := 3) rfl (by decide)) rfl) rfl)) ⟨rfl, hst⟩
        case q1 => ktd_rel
        case q2 =>
          unfold ob
          ktd_rel
end
-- part P22
/-- the list f is at hand beside the source a -/
def Two (μ : Mu) (a f : Addr) (L : List D) (ν : Mu) : Prop := ∃ es, ν = (μ.put a es).put f L ∧ Src ν a
theorem Two.at {μ ν : Mu} {a f : Addr} {L : List D} (h : Two μ a f L ν) : ν f = some L := by obtain ⟨es, rfl, _⟩ := h; exact Mu.put_self ..
theorem Two.stp {μ ν ν' : Mu} {a f : Addr} {L : List D} (hne : a ≠ f) (h : Two μ a f L ν) (k : Stp ν a ν') : Two μ a f L ν' := by
  obtain ⟨es, rfl, _⟩ := h
  obtain ⟨fs, rfl, s⟩ := k
  refine ⟨fs, ?_, s⟩
  rw [Mu.put_comm _ _ _ (Ne.symm hne), Mu.put_put]
theorem Src.put {μ : Mu} {a f : Addr} {L : List D} (hne : a ≠ f) (h : Src μ a) : Src (μ.put f L) a := by
  obtain ⟨p, q, h, r⟩ := h
  exact ⟨p, q, by rw [Mu.put_ne _ _ hne]; exact h, r⟩
theorem Two.put {μ ν : Mu} {a f : Addr} {L M : List D} (hne : a ≠ f) (h : Two μ a f L ν) : Two μ a f M (ν.put f M) := by
  obtain ⟨es, rfl, s⟩ := h
  exact ⟨es, by rw [Mu.put_put], s.put hne⟩
theorem Two.start {μ : Mu} {a f : Addr} (hne : a ≠ f) (h : Src μ a) : Two μ a f [] (μ.put f []) := by
  obtain ⟨p, q, hm, r⟩ := id h
  exact ⟨_, by rw [Mu.put_same hm], h.put hne⟩
theorem Two.end {μ ν : Mu} {a f : Addr} {L : List D} (hf : μ f = none) (hne : a ≠ f) (h : Two μ a f L ν) : Stp μ a (ν.del f) := by
  obtain ⟨es, rfl, p, q, hm, r⟩ := h
  have e : (μ.put a es) f = none := by rw [Mu.put_ne _ _ (Ne.symm hne)]; exact hf
  rw [Mu.del_put _ _ _ e]
  rw [Mu.put_ne _ _ hne] at hm
  exact ⟨es, rfl, p, q, hm, r⟩
theorem all_ip : ∀ (out : List D), (∀ e ∈ out, ∃ p : IP, e = ip p ∧ Near p) → ∃ c : List IP, out = c.map ip ∧ ∀ p ∈ c, Near p
  | [], _ => ⟨[], rfl, fun p hp => by cases hp⟩
  | e :: out, h => by
    obtain ⟨p, rfl, hp⟩ := h e (.head _)
    obtain ⟨c, rfl, hc⟩ := all_ip out fun e he => h e (.tail _ he)
    refine ⟨p :: c, rfl, fun q hq => ?_⟩
    rcases List.mem_cons.mp hq with rfl | hq
    · exact hp
    · exact hc q hq
def CsOk (cs : List (List IP × Bool)) : Prop := ∀ c ∈ cs, c.1.length ≤ 3 ∧ ∀ p ∈ c.1, Near p
section
variable {w : World} {mean : ExcName → Option Value} {mg mb : Str → Option Value} {μ : Mu}
theorem contours_spec (a : Addr) (hS : Src μ a) (lc : Nat) (hlc : lc ≤ 1) : CallP (G w mean mg mb) 2 μ (.ref 204) [.mref a, .int lc] (GiveP fun d μ' => ∃ cs : List (List IP × Bool), d = .lst (cs.map ct) ∧ cs.length ≤ 2 ∧ CsOk cs ∧ Stp μ a μ') := by
  refine' CallP.def_ (n := 1) (ex := []) (dex := []) (xs := [(Str.ofString "source"), (Str.ofString "least_here")]) (by k_mem) (by k_mem) ?h3 (fun _ => .nil) rfl (by decide) ?h4 ?h5 rfl rfl rfl
  case h3 => intro s vs X hl; match vs, hl with | [v, u], _ => exact BindsTo.of_eq rfl
  case h4 => decide
  case h5 =>
  refine' ExP.newList ?n1 EvL.nil ?n2
  case n1 => exact .inl rfl
  case n2 =>
  intro f hf
  have hne : a ≠ f := fun q => by subst q; exact hS.ne hf
  have T0 := Two.start hne hS
  obtain ⟨_, ν, ⟨fig, hlt, rfl, hst⟩, hc⟩ := take_e (w := w) (mean := mean) (mg := mg) (mb := mb) a (hS.put hne (L := [])) (3 - lc) (by omega) (by omega)
  have e3 : ((3 - lc : Nat) : Int) = 3 - (lc : Int) := by omega
  rw [e3] at hc
  have T1 := T0.stp hne hst
  have hr : CallS (G w mean mg mb) 1 ν (.type "range") [.int ((lc : Int) + fig)] (.rng 0 (lc + fig)) ν := by
    have e : (lc : Int) + fig = ((lc + fig : Nat) : Int) := by omega
    rw [e]; exact call_range1
  refine' ExP.ofE (xForE (fun done rest σ ν => ∃ cs : List (List IP × Bool), done.length + rest.length ≤ 2 ∧ cs.length = done.length ∧ CsOk cs ∧ Two μ a f (cs.map ct) ν ∧ σ = [((Str.ofString "source"), .mref a), ((Str.ofString "least_here"), .int lc), ((Str.ofString "found"), .mref f)]) [((Str.ofString "source"), .mref a), ((Str.ofString "least_here"), .int lc), ((Str.ofString "found"), .mref f)] ?hi ?hd ?hsm ?hs ?hw ?h0 ?step ?rest)
  case hi => ktd_rel
  case hd => exact rfl
  case hsm => intro a b h; cases h; omega
  case hs => exact fun _ _ => rfl
  case hw => exact Sub3 rfl rfl rfl
  case h0 => exact ⟨[], by simp [rngItems]; omega, rfl, fun c hc => (by cases hc), T1, rfl⟩
  case step =>
    clear hc hr hst T1 T0
    rintro done d rest σ ν1 ⟨cs, hlen, hcl, hok, T, rfl⟩
    rw [List.length_cons] at hlen
    refine' ⟨_, AsS.name (.inl rfl), ?body⟩
    case body =>
    obtain ⟨_, ν2, ⟨fig2, hlt2, rfl, hst2⟩, hc2⟩ := take_e (w := w) (mean := mean) (mg := mg) (mb := mb) a T.choose_spec.2 (4 - lc) (by omega) (by omega)
    have e4 : ((4 - lc : Nat) : Int) = 4 - (lc : Int) := by omega
    rw [e4] at hc2
    have T2 := T.stp hne hst2
    refine' ExN.cons (xAssign (d := .int ((lc : Int) + fig2)) ?a1 (.inl rfl) (fun _ _ => rfl)) ?r1
    case a1 => ktd_rel
    case r1 =>
    have hr : CallS (G w mean mg mb) 1 ν2 (.type "range") [.int ((lc : Int) + fig2)] (.rng 0 (lc + fig2)) ν2 := by
      have e : (lc : Int) + fig2 = ((lc + fig2 : Nat) : Int) := by omega
      rw [e]; exact call_range1
    refine' ExN.draws (Stp ν2 a) (fun d => ∃ p : IP, d = ip p ∧ Near p) (lc + fig2) (by omega) ?d1 (Stp.refl T2.choose_spec.2) ?d2 ?d3 ?d4 ?d5 ?d6 ?d8 ?d9 ?d7 ?r2
    case d1 => ktd_rel
    case d2 => exact .inl rfl
    case d3 => exact rfl
    case d4 => exact CompNames.mk'
    case d5 => exact .inl rfl
    case d6 => exact fun _ _ => rfl
    case d8 => exact rfl
    case d9 => exact fun e h => by cases e; cases h; rfl
    case d7 =>
      intro d ν hst
      have side : ∀ ν : Mu, Stp ν2 a ν → CallE (G w mean mg mb) 1 ν (.ref 192) [.mref a, .int 9] fun d μ' => ∃ i : Int, d = .int i ∧ (∃ u : Int, (D.int (i - 4) = .int u) ∧ (-4 ≤ u ∧ u ≤ 4)) ∧ Stp ν2 a μ' := fun ν hst => by
        refine (take_e a hst.src 9 (by decide) (by decide)).mono fun d μ' h => ?_
        obtain ⟨fig, h1, rfl, h2⟩ := h
        exact ⟨fig, rfl, ⟨_, rfl, by omega⟩, hst.trans h2⟩
      refine' EvE.tup2 (fun d μ' => (∃ u : Int, d = .int u ∧ (-4 ≤ u ∧ u ≤ 4)) ∧ Stp ν2 a μ') (EvE.subC (EvE.call ?v1 rfl ?v2 (side ν hst) ?v4 ?v5 ?v6)) ?w1 ?w2 ?w3
      case v1 => k_mem
      case v2 => ktd_rel
      case v4 => decide
      case v5 => exact fun _ => rfl
      case v6 => exact fun _ => rfl
      case w2 => exact fun _ => rfl
      case w3 => exact fun _ => rfl
      case w1 =>
        rintro d1 μ1 ⟨⟨u, rfl, hu⟩, hst1⟩
        refine' EvE.subC (EvE.call ?v1 rfl ?v2 ((side μ1 hst1).mono ?v3) ?v4 ?v5 ?v6)
        case v1 => k_mem
        case v2 => ktd_rel
        case v4 => decide
        case v5 => exact fun _ => rfl
        case v6 => exact fun _ => rfl
        case v3 =>
          rintro d2 μ2 ⟨i, rfl, ⟨v, hv, hv2⟩, hst2⟩
          refine ⟨i, rfl, ⟨(u, v), ?_, hu.1, hu.2, hv2.1, hv2.2⟩, hst2⟩
          rw [hv]; rfl
    case r2 =>
    intro out ν3 hol hop hst3
    obtain ⟨ps, rfl, hps⟩ := all_ip out hop
    rw [List.length_map] at hol
    have T3 := T2.stp hne hst3
    obtain ⟨_, ν4, ⟨fig4, hlt4, rfl, hst4⟩, hc4⟩ := take_e (w := w) (mean := mean) (mg := mg) (mb := mb) a hst3.src 2 (by decide) (by decide)
    have T4 := T3.stp hne hst4
    have hcs : (cs.map ct).length ≤ 1000 := by rw [List.length_map]; omega
    have hpl : (ps.map ip).length ≤ 1000 := by rw [List.length_map]; omega
    refine' ExN.cons (xAppend (a := f) (ds := cs.map ct) (d := ct (ps, (fig4 : Int) == 0)) ?o ?e ?m0 T4.at hcs ?p1 ?p2 ?p3 ?p4 ?p5) (ExN.nil ?fin)
    case o => ktd_rel
    case e =>
      show EvS _ _ _ _ _ _ (.tup [.tup (ps.map ip), .bool ((fig4 : Int) == 0)]) _
      ktd_rel
    case m0 => rw [T3.at]; simp
    case p1 => exact fun _ => rfl
    case p2 => exact fun _ => rfl
    case p3 => exact rfl
    case p4 => exact fun e h => by unfold interactive; rw [h]; rfl
    case p5 => exact fun _ => rfl
    case fin =>
      refine ⟨[((Str.ofString "source"), .mref a), ((Str.ofString "least_here"), .int lc), ((Str.ofString "found"), .mref f)], Sub3 rfl rfl rfl, cs ++ [(ps, (fig4 : Int) == 0)], by rw [List.length_append]; simp; omega, by simp [hcl], ?_, ?_, rfl⟩
      · intro c hc
        rcases List.mem_append.mp hc with hc | hc
        · exact hok c hc
        · rw [List.mem_singleton.mp hc]
          exact ⟨by simp only; omega, hps⟩
      · rw [List.map_append]
        exact T4.put hne
  case rest =>
    rintro σe μe ⟨cs, hlen, hcl, hok, T, rfl⟩
    refine' ExE.ofS (d := .lst (cs.map ct)) (xRetM ?q1 T.at rfl) ⟨cs, rfl, by simp at hlen; omega, hok, T.end hf hne⟩
    case q1 => ktd_rel
end
-- part P23
theorem half_obj (w : World) : ∃ t u : Tok, (hd.heap_39 w.params).lookup 128 = some { cls := .type "tuple", data := .seq #[.int 1 t, .int 2 u] } := ⟨_, _, (by show List.lookup _ (hd.heap_39 _) = _; k_is)⟩
theorem ints_reps {I : Imm} : ∀ {vs : List Value} {ns : List Int}, IntsAre vs ns → Reps I vs (ns.map .int)
  | _, _, .nil => .nil
  | _, _, .cons _ _ t => .cons (.int _ _) (ints_reps t)
section
variable {w : World} {mean : ExcName → Option Value} {mg mb : Str → Option Value}
theorem law_join {s₁ : Shared} {h₁ : Heap} {tk : Nat} {scope : Scope} {fa l : Addr} {cd : Value} {vs : List Value} {ns : List Int} {body : List Stmt} {Q : Flow → Shared → Prop} {E : Value → Shared → Prop} {name : Str} {m : Str → Option Value}
    (KX : (hd.heap_39 w.params).In s₁.heap) (T : Top hd.view_39 (looseW hd.view_39 [Str.ofString "fraction", Str.ofString "curve_box", Str.ofString "reached_box"]) mean mg mb s₁.heap) (K0 : Below callerA s₁.heap [] s₁.heap)
    (F : Fr s₁.heap s₁.heap.objs.size h₁ m) (hm : m (Str.ofString "script") = some (.ref l)) (hL : s₁.heap.IsList l vs.toArray) (hI : IntsAre vs ns)
    (hk : scope.kind = .function) (hsn : scope.names.lookup (Str.ofString "script") = some .local) (hnc : ∀ x ∈ scope.names, x.2 ≠ .cell)
    (hn : ¬ ((63 : Nat) : Int) < (ns.length : Int)) (hbody : ∀ (w : World) (mean : ExcName → Option Value) (mg mb : Str → Option Value) (ns : List Int), ns.length ≤ 63 → ∀ μ, ExS (G w mean mg mb) scope 20 [((Str.ofString "script"), .lst (ns.map .int))] μ body (.ret (.bool true)) [] μ)
    (hQ : ∀ s' m', Fr s₁.heap s₁.heap.objs.size s'.heap m' → s'.gens = s₁.gens → s'.os = s₁.os → Q (.ret (.bool true)) s') :
    wpAny (model PySem.Challenge.rw_on0236_01.row.prog w) (callerA.deeper (envOf name scope s₁.heap.objs.size fa cd)) (execs body (envOf name scope s₁.heap.objs.size fa cd)) Q E { heap := h₁, gens := s₁.gens, drawn := s₁.drawn, toks := tk, os := s₁.os } := by
  obtain ⟨t, u, hh⟩ := half_obj w
  have h128 : s₁.heap.get? 128 = some _ := KX _ _ hh
  obtain ⟨o, ho, hc, nn, hd'⟩ := id hL
  let I : Imm := fun a => if a = l ∨ a = 128 then s₁.heap.get? a else none
  have I1 : I l = some o := by show (if _ then _ else _) = _; rw [if_pos (.inl rfl)]; exact ho
  have I2 : I 128 = some { cls := .type "tuple", data := .seq #[.int 1 t, .int 2 u] } := by show (if _ then _ else _) = _; rw [if_pos (.inr rfl)]; exact h128
  have Isub : ∀ a o, I a = some o → s₁.heap.get? a = some o := fun a o e => by
    have e : (if a = l ∨ a = 128 then s₁.heap.get? a else none) = some o := e
    split at e
    · exact e
    · cases e
  have hL0 : s₁.heap.get? s₁.heap.objs.size = none := Heap.get_size _
  let μ : Mu := fun _ => none
  let env : Env := envOf name scope s₁.heap.objs.size fa cd
  let c : Cx := { A := callerA.deeper env, A₀ := callerA, base := s₁.heap, outer := [], fenv := env, h₀ := s₁.heap, L := s₁.heap.objs.size, ev := env }
  have IL : I s₁.heap.objs.size = none := by
    cases e : I s₁.heap.objs.size with
    | none => rfl
    | some o' => rw [Isub _ _ e] at hL0; cases hL0
  have Fk : FrOk (G w mean mg mb) c [((Str.ofString "script"), .lst (ns.map .int))] h₁ ⟨I, μ⟩ := by
    refine { below := K0, fr := ⟨m, F⟩, kin := KX, top := T, frames := rfl, fframe := rfl, fkind := hk, handled := rfl, eg := rfl, eb := rfl, ek := hk, efr := rfl, loc := ⟨m, F.ns⟩, locAbove := hL0, cell := fun x a e => (by cases e), cellAt := fun x e => ?_, cellInj := fun x y a e => (by cases e), ownI := fun a ha => ?_, mu0 := fun a ha => absurd rfl ha, vars := fun x d e => ?_, half := .tup (vs := [.int 1 t, .int 2 u]) I2 (.cons (.int _ _) (.cons (.int _ _) .nil)) }
    · exact absurd rfl (hnc _ (mem_of_lookup e))
    · rcases ha with rfl | rfl | ⟨x, hx⟩
      · exact ⟨IL, rfl⟩
      · exact ⟨IL, rfl⟩
      · cases hx
    · rw [List.lookup_cons] at e
      cases q : x == (Str.ofString "script") with
      | false => rw [q] at e; cases e
      | true =>
        rw [q] at e
        cases e
        rw [beq_iff_eq.mp q]
        exact ⟨.ref l, .inl ⟨hsn, m, F.ns, hm⟩, .lst I1 hc hd' (ints_reps hI)⟩
  have M : MemOk h₁ ⟨I, μ⟩ := ⟨fun a o e => F.keep _ _ (Isub a o e), fun a ds e => (by cases e), fun a e => absurd rfl e⟩
  refine hbody w mean mg mb ns (by omega) μ c rfl ⟨Nat.le_of_ble_eq_true rfl, Nat.le_of_ble_eq_true rfl⟩ { heap := h₁, gens := s₁.gens, drawn := s₁.drawn, toks := tk, os := s₁.os } I Fk M Q E fun f s' I' F' T' r => ?_
  cases r with
  | ret r =>
    cases r
    obtain ⟨m', fr⟩ := F'.fr
    obtain ⟨h, k, e⟩ := T'.same
    refine hQ s' m' fr ?_ ?_ <;> rw [e]
end
-- part P24
section
variable {w : World} {mean : ExcName → Option Value} {mg mb : Str → Option Value} {μ : Mu}
/-- the second argument left out is 1 -/
theorem fraction1_spec (t : Int) : CallS (G w mean mg mb) 2 μ (.ref 61) [.int t] (qd (mkRat t 1)) μ := by
  refine' CallS.def_ (n := 1) (ex := [.int 1 246]) (dex := [.int 1]) (xs := [Str.ofString "top", Str.ofString "bottom"]) (σ' := []) (by k_mem) (by k_mem) ?h3 (fun _ => .cons (.int _ _) .nil) rfl (by decide) ?h4 ?h5 rfl rfl rfl
  case h3 => intro s vs X hl; match vs, hl with | [v], _ => exact binds_K X rfl (by k_mem) rfl rfl rfl
  case h4 => decide
  case h5 =>
    have hq := qd_mk t 1 (by decide)
    rw [← hq]
    have hg : Nat.gcd t.natAbs 1 ≠ 0 := Nat.gcd_ne_zero_right (by omega)
    have hg0 : ((Nat.gcd t.natAbs 1 : Nat) : Int) ≠ 0 := by omega
    have hgs : (Int.natAbs (Nat.gcd t.natAbs 1 : Nat)).log2 < 9000 := by rw [Nat.gcd_one_right]; decide +kernel
    refine' ExS.ifF (TsS.to (b := (1 : Int) == 0) ?t1 rfl) ?r1
    case t1 => k_all
    case r1 =>
    refine' ExS.ifF (TsS.to (b := decide ((1 : Int) < 0)) ?t1 rfl) ?r2
    case t1 => k_all
    case r2 =>
    have hc := gcd_spec (w := w) (mean := mean) (mg := mg) (mb := mb) (μ := μ) t 1
    k_updF
    refine ExS.retW ?_
    ktd_rel
end
def lineC : List Pt := [(mkRat 0 1, mkRat 0 1), (mkRat 9 1, mkRat (-9) 1)]
def lineB : Box := ⟨mkRat 0 1, mkRat (-9) 1, mkRat 9 1, mkRat 0 1⟩
theorem line_box : IsBox (ends lineC 1) lineB := by
  refine ⟨?_, ?_, ?_, ?_, ?_⟩ <;> decide +kernel
theorem line_sz : ∀ p ∈ lineC, PSz 5 p := by
  unfold lineC PSz Sz; decide +kernel
section
variable {w : World} {mean : ExcName → Option Value} {mg mb : Str → Option Value} {μ : Mu}
theorem line_reached : CallS (G w mean mg mb) 8 μ (.ref 178) [.tup [.tup [qd (mkRat 0 1), qd (mkRat 0 1)], .tup [qd (mkRat 9 1), qd (mkRat (-9) 1)]], .int 1] (bd lineB) μ :=
  reached_box_spec lineC 1 lineB line_box (by decide) (by decide) (by decide) line_sz (by decide)
end
theorem area_ne (c : List IP × Bool) (h : c.1.length ≤ 3) : (crossSum c.1 c.1.length != fan c.1 (c.1.length - 2)) = false := by
  rw [area_same _ h]; simp
theorem cs_flat {cs : List (List IP × Bool)} (h1 : cs.length ≤ 2) (h : CsOk cs) : (cs.flatMap (·.1)).length ≤ 6 ∧ ∀ p ∈ cs.flatMap (·.1), Near p := by
  constructor
  · have := flat_len (·.1) cs 3 fun c hc => (h c hc).1
    omega
  · intro p hp
    obtain ⟨c, hc, hp⟩ := List.mem_flatMap.mp hp
    exact (h c hc).2 p hp
-- part P25
theorem CallP.mono {g : Gl} {n : Nat} {μ : Mu} {f : Value} {ds : List D} {P R : Value → Imm → Mu → Prop} (h : CallP g n μ f ds P) (k : ∀ v I μ', P v I μ' → R v I μ') : CallP g n μ f ds R := fun c r σ s I F M vs rr Q E kk => h c r σ s I F M vs rr Q E fun v s' I' μ' T hp => kk v s' I' μ' T (k v I' μ' hp)
theorem filter_none (l : List D) : (l.filter fun _ => false).map (fun d => d) = [] := by simp
theorem cs_box {w : World} {mean : ExcName → Option Value} {mg mb : Str → Option Value} {μ : Mu} {cs : List (List IP × Bool)} {o : Option IBox} (h1 : cs.length ≤ 2) (h : CsOk cs) (ho : IsO (cs.flatMap (·.1)) o) : CallS (G w mean mg mb) 20 μ (.ref 133) [.lst (cs.map ct)] (ob o) μ :=
  (box_of_spec cs o ho (Nat.le_trans (cs_flat h1 h).1 (by decide))).more (by decide)
theorem law_holds : PySem.Challenge.rw_on0236_01.Holds := hd (by
  k_go0
  (all_goals try k_fold)
  refine' law_join (by assumption) (by assumption) (by assumption) (by assumption) rfl (by assumption) (by assumption) rfl rfl (by decide) (by assumption) ?hbodyZ ?hQZ
  case hQZ =>
    intro s' m' F' hg' hos'
    refine goodW_bool F' (hg'.trans (by assumption)) (raisesW_false ?_) ?_ hos'
    · wrow_none_raised
    · wrow_post
  case hbodyZ =>
    intro w mean mg mb ns hn μ
    have hlen : (ns.map D.int).length ≤ 1000 := by simp; omega
    have hcl := call_lenL (g := G w mean mg mb) (n := 20) (μ := μ) hlen
    rw [List.length_map] at hcl
    have hr : CallS (G w mean mg mb) 20 μ (.type "range") [.int (max 1 (min (ns.length : Int) 2))] (.rng 0 (max 1 (min ns.length 2))) μ := by
      have e : max 1 (min (ns.length : Int) 2) = ((max 1 (min ns.length 2) : Nat) : Int) := by omega
      rw [e]; exact call_range1
    refine' xFor (fun done rest σ ν => ν = μ ∧ (∀ d ∈ rest, d ∈ rngItems 0 (max 1 (min ns.length 2))) ∧ σ = [((Str.ofString "script"), .lst (ns.map .int))]) [((Str.ofString "script"), .lst (ns.map .int))] ?hiZ ?hdZ ?hsmZ ?hsZ ?hwZ ?h0Z ?stepZ ?restZ
    case hiZ => ktd_rel
    case hdZ => exact rfl
    case hsmZ => intro a b h; cases h; omega
    case hsZ => exact fun _ _ => rfl
    case hwZ => exact Sub1 rfl
    case h0Z => exact ⟨rfl, fun d hd => hd, rfl⟩
    case stepZ =>
      rintro done d rest σ ν ⟨rfl, hrest, rfl⟩
      obtain ⟨k, hk, rfl⟩ := mem_rng (hrest d (.head _))
      refine' fStep [((Str.ofString "script"), .lst (ns.map .int))] (σ₂ := [((Str.ofString "script"), .lst (ns.map .int))]) (AsS.name (.inl rfl)) ?bodyZ ?subZ ⟨rfl, fun d hd => hrest d (.tail _ hd), rfl⟩
      case subZ => exact Sub.refl
      case bodyZ =>
      obtain ⟨p, q, hp, hq, hq2, hpool⟩ := pool_spec (w := w) (mean := mean) (mg := mg) (mb := mb) ns k (by omega) hn
      clear hcl hr
      refine' ExS.newCall ?h1Z ?h2Z rfl ?haZ ((hpool ν).more (by decide)) ?hxZ ?hdZ ?heZ ?hpZ ?hZ
      case h1Z => k_mem
      case h2Z => k_mem
      case haZ => ktd_rel
      case hxZ => exact .inl rfl
      case hdZ => decide
      case heZ => exact fun _ => rfl
      case hpZ => exact fun _ => rfl
      case hZ =>
      intro a ha
      have hS : Src (ν.put a [.int p, .int q]) a := ⟨p, q, Mu.put_self .., hp, hq, hq2⟩
      generalize hμ : ν.put a [.int p, .int q] = μ1 at *
      refine' ExS.asg2P (fun d μ2 => ∃ c1 c2 : List (List IP × Bool), d = .tup [.lst (c1.map ct), .lst (c2.map ct)] ∧ c1.length ≤ 2 ∧ CsOk c1 ∧ c2.length ≤ 2 ∧ CsOk c2 ∧ Stp μ1 a μ2) ?eZ rfl rfl ?esZ ?ewZ ?epZ
      case esZ => exact fun _ _ => rfl
      case ewZ => exact fun e h => by cases e; cases h; rfl
      case eZ =>
        have k1 : CallP (G w mean mg mb) 20 μ1 (.ref 204) [.mref a, .int 1] _ := (contours_spec a hS 1 (by decide)).more (by decide)
        refine' EvP.tup2 (fun d μ2 => ∃ c1 : List (List IP × Bool), d = .lst (c1.map ct) ∧ c1.length ≤ 2 ∧ CsOk c1 ∧ Stp μ1 a μ2) (EvP.call ?v1Z ?v2Z rfl ?v3Z k1 ?v4Z ?v5Z ?v6Z) ?w1Z ?w2Z ?w3Z
        case v1Z => k_mem
        case v2Z => k_mem
        case v3Z => ktd_rel
        case v4Z => decide
        case v5Z => exact fun _ => rfl
        case v6Z => exact fun _ => rfl
        case w2Z => exact fun _ => rfl
        case w3Z => exact fun _ => rfl
        case w1Z =>
          rintro d μ2 ⟨c1, rfl, l1, o1, s1⟩
          have k2 : CallP (G w mean mg mb) 20 μ2 (.ref 204) [.mref a, .int 0] _ := (contours_spec a s1.src 0 (by decide)).more (by decide)
          refine' EvP.call ?v1Z ?v2Z rfl ?v3Z (CallP.mono k2 ?v7Z) ?v4Z ?v5Z ?v6Z
          case v1Z => k_mem
          case v2Z => k_mem
          case v3Z => ktd_rel
          case v4Z => decide
          case v5Z => exact fun _ => rfl
          case v6Z => exact fun _ => rfl
          case v7Z =>
            rintro v I μ3 ⟨d, ⟨c2, rfl, l2, o2, s2⟩, r⟩
            exact ⟨_, ⟨c1, c2, rfl, l1, o1, l2, o2, s1.trans s2⟩, r⟩
      case epZ =>
      rintro d μ2 ⟨c1, c2, rfl, l1, ok1, l2, ok2, st⟩
      refine' ⟨_, _, rfl, ?mainZ⟩
      obtain ⟨o1, ho1⟩ := ibox_ex (c1.flatMap (·.1))
      obtain ⟨o2, ho2⟩ := ibox_ex (c2.flatMap (·.1))
      have f1 := cs_flat l1 ok1
      have f2 := cs_flat l2 ok2
      have kb1 := cs_box (w := w) (mean := mean) (mg := mg) (mb := mb) (μ := μ2) l1 ok1 ho1
      have kb2 := cs_box (w := w) (mean := mean) (mg := mg) (mb := mb) (μ := μ2) l2 ok2 ho2
      obtain ⟨_, μ3, ⟨rfl, st3⟩, ktwo⟩ := (two_right_spec (w := w) (mean := mean) (mg := mg) (mb := mb) a st.src _ _ o1 o2 ho1 ho2 f1.2 f2.2).more (m := 20) (by decide)
      obtain ⟨_, μ4, ⟨rfl, st4⟩, kcur⟩ := (curve_right_spec (w := w) (mean := mean) (mg := mg) (mb := mb) a st3.src).more (m := 20) (by decide)
      obtain ⟨es, h4, _⟩ := (st.trans st3).trans st4
      refine' ExS.dropMu (a := a) (ds := es) (μ₁ := μ4) ?walkZ (by rw [h4]; exact Mu.put_self ..) (by rw [h4, ← hμ, Mu.put_put]; exact Mu.del_put _ _ _ ha)
      case walkZ =>
      k_updF
      refine' xFor (fun done rest σ ν2 => ν2 = μ2 ∧ (∀ d ∈ rest, ∃ (cs : List (List IP × Bool)) (o : Option IBox), d = .tup [ob o, .lst (cs.map ct)] ∧ cs.length ≤ 2 ∧ CsOk cs ∧ IsO (cs.flatMap (·.1)) o) ∧ σ = [((Str.ofString "one"), ob o1), ((Str.ofString "other"), ob o2), ((Str.ofString "first"), .lst (c1.map ct)), ((Str.ofString "second"), .lst (c2.map ct)), ((Str.ofString "source"), .mref a), ((Str.ofString "script"), .lst (ns.map .int))]) [((Str.ofString "one"), ob o1), ((Str.ofString "other"), ob o2), ((Str.ofString "first"), .lst (c1.map ct)), ((Str.ofString "second"), .lst (c2.map ct)), ((Str.ofString "source"), .mref a), ((Str.ofString "script"), .lst (ns.map .int))] ?iiZ ?idZ ?ismZ ?isZ ?iwZ ?i0Z ?istZ ?irZ
      case iiZ => ktd_rel
      case idZ => exact rfl
      case ismZ => intro a b h; cases h
      case isZ => exact fun _ _ => rfl
      case iwZ => exact Sub.cons rfl (Sub.cons rfl (Sub4 rfl rfl rfl rfl))
      case i0Z =>
        refine ⟨rfl, fun d hd => ?_, rfl⟩
        simp only [List.mem_cons, List.not_mem_nil, or_false] at hd
        rcases hd with rfl | rfl
        · exact ⟨c1, o1, rfl, l1, ok1, ho1⟩
        · exact ⟨c2, o2, rfl, l2, ok2, ho2⟩
      case istZ =>
        rintro done2 d2 rest2 σ2 ν2 ⟨rfl, hrest2, rfl⟩
        obtain ⟨cs, o, rfl, l3, ok3, ho3⟩ := hrest2 d2 (.head _)
        have f3 := cs_flat l3 ok3
        have kr := (box_right_spec (w := w) (mean := mean) (mg := mg) (mb := mb) (μ := ν2) o _ ho3 (Nat.le_trans f3.1 (by decide))).more (m := 20) (by decide)
        rw [← spots_map] at kr
        refine' fStep [((Str.ofString "one"), ob o1), ((Str.ofString "other"), ob o2), ((Str.ofString "first"), .lst (c1.map ct)), ((Str.ofString "second"), .lst (c2.map ct)), ((Str.ofString "source"), .mref a), ((Str.ofString "script"), .lst (ns.map .int))] (AsN.pair (AsN.name (.inl rfl) (.head _)) (AsN.name (.inl rfl) (.tail _ (.head _)))) ?jbZ ?jsZ ⟨rfl, fun d hd => hrest2 d (.tail _ hd), rfl⟩
        case jbZ =>
          refine' ExS.ifF (TsS.to (b := !true) (tNot (tCall ?jgZ)) rfl) ExS.nil
          case jgZ =>
            refine' eCall ?x1Z rfl (lCons ?x5Z (lCons ?x6Z EvL.nil ?x7Z) ?x8Z) kr ?x2Z ?x3Z ?x4Z
            case x1Z => k_mem
            case x2Z => decide
            case x3Z => exact fun _ => rfl
            case x4Z => exact fun _ => rfl
            case x7Z => exact fun _ => rfl
            case x8Z => exact fun _ => rfl
            case x5Z => ktd_rel
            case x6Z =>
              refine' eFlat (D.nth 0) (fstsD) (idD) ?hi7Z ?hd7Z ?hsz7Z ?hx7Z ?hy7Z ?hn7Z ?hyn7Z ?hxy7Z ?N7Z ?hns7Z ?hns27Z ?hsm7Z ?hs7Z ?hs27Z ?h7Z
              case hi7Z => ktd_rel
              case hd7Z => exact rfl
              case hsz7Z => rw [spots_map, List.length_map]; omega
              case hx7Z => first | exact .inl rfl | exact .inr rfl
              case hy7Z => first | exact .inl rfl | exact .inr rfl
              case hn7Z => exact rfl
              case hyn7Z => exact rfl
              case hxy7Z => decide
              case N7Z => exact CompNames.mk'
              case hns7Z => first | exact .inl rfl | exact .inr rfl
              case hns27Z => first | exact .inl rfl | exact .inr rfl
              case hsm7Z => first | (intro a b h; cases h; done) | (intro a b h; cases h; omega)
              case hs7Z => exact fun _ _ => rfl
              case hs27Z => exact fun _ _ => rfl
              case h7Z =>
                intro d hd
                obtain ⟨c, hc, rfl⟩ := List.mem_map.mp hd
                refine' ⟨?evZ, rfl, ?smZ, ?elZ⟩
                case evZ =>
                  unfold ct
                  ktd_rel
                case smZ => intro a b h; cases h
                case elZ =>
                  intro e he
                  show EvS _ _ _ _ _ _ e _
                  ktd_rel
        case jsZ => exact Sub.cons rfl (Sub.cons rfl (Sub4 rfl rfl rfl rfl))
      case irZ =>
      rintro σe μe ⟨rfl, _, rfl⟩
      refine' ExS.ifF (tOrF (TsS.to (b := !true) (tNot (tCall ?m1Z)) rfl) (TsS.to (b := !true) (tNot (tCall ?m2Z)) rfl)) ?m3Z
      case m1Z => ktd_rel
      case m2Z => ktd_rel
      case m3Z =>
      refine' ExS.ifF (tCmp (EvS.to (d := .lst (((c1.map ct ++ c2.map ct).filter fun _ => false).map fun d => d)) ?l3Z (by rw [filter_none])) ?l2Z cmp_neNil rfl) (ExS.nil.weak (Sub1 rfl))
      case l2Z => ktd_rel
      case l3Z =>
        refine' eFilter (d := .lst (c1.map ct ++ c2.map ct)) (fun _ => false) (fun d => d) (EvS.cat ?hi4Z ?hj4Z ?hk4Z) ?hd4Z ?hsz4Z ?hx4Z ?hn4Z ?hN4Z ?hns4Z ?hsm4Z ?hs4Z ?ht4Z ?h4Z
        case hi4Z => ktd_rel
        case hj4Z => ktd_rel
        case hk4Z => rw [List.length_map, List.length_map]; omega
        case hd4Z => exact rfl
        case hsz4Z => rw [List.length_append, List.length_map, List.length_map]; omega
        case hx4Z => first | exact .inl rfl | exact .inr rfl
        case hn4Z => exact rfl
        case hN4Z => exact CompNames.mk'
        case hns4Z => first | exact .inl rfl | exact .inr rfl
        case hsm4Z => intro a b h; cases h
        case hs4Z => exact fun _ _ => rfl
        case ht4Z =>
          intro d hd
          obtain ⟨c, rfl, hc⟩ : ∃ c : List IP × Bool, d = ct c ∧ (c.1.length ≤ 3 ∧ ∀ p ∈ c.1, Near p) := by
            rcases List.mem_append.mp hd with hd | hd
            · obtain ⟨c, hc, rfl⟩ := List.mem_map.mp hd
              exact ⟨c, rfl, ok1 c hc⟩
            · obtain ⟨c, hc, rfl⟩ := List.mem_map.mp hd
              exact ⟨c, rfl, ok2 c hc⟩
          have ka := (area_twice_spec (w := w) (mean := mean) (mg := mg) (mb := mb) (μ := μ4) c hc.2 hc.1).more (m := 20) (by decide)
          have kl := (law_area_spec (w := w) (mean := mean) (mg := mg) (mb := mb) (μ := μ4) c.1 hc.2 hc.1).more (m := 20) (by decide)
          refine' TsS.to (tCmp ?kaZ ?kbZ cmp_ne ?kdZ) (area_ne c hc.1)
          case kaZ => ktd_rel
          case kbZ =>
            unfold ct
            ktd_rel
          case kdZ => exact rfl
        case h4Z =>
          intro d hd
          ktd_rel
    case restZ =>
      rintro σe μe ⟨rfl, _, rfl⟩
      have k9 := (fraction1_spec (w := w) (mean := mean) (mg := mg) (mb := mb) (μ := μe) 9).more (m := 20) (by decide)
      have km := (fraction1_spec (w := w) (mean := mean) (mg := mg) (mb := mb) (μ := μe) (-9)).more (m := 20) (by decide)
      have k0 := (fraction1_spec (w := w) (mean := mean) (mg := mg) (mb := mb) (μ := μe) 0).more (m := 20) (by decide)
      have kl := (line_reached (w := w) (mean := mean) (mg := mg) (mb := mb) (μ := μe)).more (m := 20) (by decide)
      have hb : bd lineB = .tup [qd (mkRat 0 1), qd (mkRat (-9) 1), qd (mkRat 9 1), qd (mkRat 0 1)] := rfl
      rw [hb] at kl
      k_updF
      k_updF
      refine' ExS.retW (EvS.to (eCmp (a := .tup [qd (mkRat 0 1), qd (mkRat (-9) 1), qd (mkRat 9 1), qd (mkRat 0 1)]) (b := .tup [qd (mkRat 0 1), qd (mkRat (-9) 1), qd (mkRat 9 1), qd (mkRat 0 1)]) ?q1Z ?q2Z (cmp_eqSame (k := 4) rfl (by decide)) rfl) rfl)
      case q1Z => ktd_rel
      case q2Z => ktd_rel)
end Mine
theorem PySem.Challenge.cw_on0236_01_holds : PySem.Challenge.rw_on0236_01.Holds :=
  Mine.law_holds
